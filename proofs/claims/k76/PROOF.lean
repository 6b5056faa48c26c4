import PyProof.Rows.All
import Wide.All
import OpenK.AllK
import Wide.FinOn
import HandS.EndTab
import HandS.ForMost
import HandS.Exc
import HandS.ExcOwn
import HandS.TryOnly
import HandS.TupAny
import HandS.TupMul
import HandS.Deep
import HandS.Style
import HandS.Flow
import HandS.Zip
import HandS.IsInst
import HandS.SortInts
import HandS.RaiseMore
import HandS.Conv
import HandS.Iter
import HandS.Text
import HandS.Codes
import HandS.Small
import HandS.ExcIs
import KE.DataFind
import HandS.FStr
import PyProof.P3In
import PyProof.Rows.InDataRows
import PyProof.Rows.StrIntSpec
import PyProof.Rows.FStr
import PyProof.StrOps2
import HandS.Gcd
import KE.SortData
import KE.DataMinMax
import KE.KTupSum
import PyProof.TupleOfSeq
import HandS.Set
import HandS.SetFor
import HandS.SetKeys
import KE.GoesMore
import KE.GoesEnum
import PyProof.SliceStr2
import PySem.Challenge.RW_postshire_k76_whole_marks_turned_and_wor
set_option Elab.async false
set_option linter.all false
set_option maxRecDepth 100000
set_option maxHeartbeats 4000000
/-! Dn: a pure reading of programs over plain data, and its tie to the machine's rules. -/
namespace Dn
open PySem PySem.Spec PyProof.Rows L2

/-- what is fixed for a whole program -/
structure Ct where
  K : PySem.W.Frag
  mg : Str → Option Value
  T : List (Addr × Str)
  rv : V
/-- the tables of code objects, and the raw value that a place may hold -/
structure Tb where
  T : List (Addr × Str)
  rv : V
abbrev D := PyData
abbrev fnD (x : Str) : D := .dict [(.none, .str x)]
abbrev muD (n : Nat) : D := .dict [(.bool true, .int n)]
abbrev eD : D := .dict []
/-- the script's list -/
abbrev scD (ds : List D) : D := .dict [(.int 0, .list ds)]

mutual
inductive Den (C : Ct) (F : Hp) (am : List Addr) : V → D → Prop
  | non : Den C F am .non .none
  | bl (b : Bool) : Den C F am (.bl b) (.bool b)
  | int (i : Int) : Den C F am (.int i) (.int i)
  | str (x : Str) : Den C F am (.str x) (.str x)
  | lst {a : Addr} {vs : List V} {ds : List D} : F a = some (.lst vs) → DenL C F am vs ds → Den C F am (.ref a) (.list ds)
  | sc {a : Addr} {vs : List V} {ds : List D} : SqL C.K F a vs → DenL C F am vs ds → Den C F am (.ref a) (scD ds)
  | tup {a : Addr} {vs : List V} {ds : List D} : SqT C.K F a vs → DenL C F am vs ds → Den C F am (.ref a) (.tuple ds)
  | fn {x : Str} {f : Addr} : C.mg x = some (.ref f) → Den C F am (.ref f) (fnD x)
  | mu {n : Nat} {a : Addr} : am[n]? = some a → Den C F am (.ref a) (muD n)
  | ed {a : Addr} : F a = some (.dK []) → Den C F am (.ref a) eD
inductive DenL (C : Ct) (F : Hp) (am : List Addr) : List V → List D → Prop
  | nil : DenL C F am [] []
  | cons {v : V} {vs : List V} {d : D} {ds : List D} : Den C F am v d → DenL C F am vs ds → DenL C F am (v :: vs) (d :: ds)
end

/-- one abstract heap within another -/
def Sub (F F' : Hp) : Prop := ∀ b o, F b = some o → F' b = some o
theorem Sub.refl (F : Hp) : Sub F F := fun _ _ h => h
theorem Sub.trans {F G H : Hp} (a : Sub F G) (b : Sub G H) : Sub F H := fun _ _ h => b _ _ (a _ _ h)
theorem Sub.sqL {F F' : Hp} {K : PySem.W.Frag} {a : Addr} {xs : List V} (s : Sub F F') (h : SqL K F a xs) : SqL K F' a xs := by
  rcases h with (h | ⟨o, h⟩) | h
  · exact .inl (.inl (s _ _ h))
  · exact .inl (.inr ⟨o, s _ _ h⟩)
  · exact .inr h
theorem Sub.sqT {F F' : Hp} {K : PySem.W.Frag} {a : Addr} {xs : List V} (s : Sub F F') (h : SqT K F a xs) : SqT K F' a xs := by
  rcases h with (h | ⟨o, h⟩) | h
  · exact .inl (.inl (s _ _ h))
  · exact .inl (.inr ⟨o, s _ _ h⟩)
  · exact .inr h
/-- one row ahead of another -/
def Pre (l l' : List Addr) : Prop := ∃ r, l' = l ++ r
theorem Pre.refl (l : List Addr) : Pre l l := ⟨[], (List.append_nil l).symm⟩
theorem Pre.trans {l m n : List Addr} (a : Pre l m) (b : Pre m n) : Pre l n := by
  obtain ⟨r, rfl⟩ := a
  obtain ⟨q, rfl⟩ := b
  exact ⟨r ++ q, List.append_assoc _ _ _⟩
theorem Pre.get {l l' : List Addr} (p : Pre l l') {n : Nat} {a : Addr} (h : l[n]? = some a) : l'[n]? = some a := by
  obtain ⟨r, rfl⟩ := p
  obtain ⟨hn, _⟩ := List.getElem?_eq_some_iff.mp h
  rw [List.getElem?_append_left hn]
  exact h
theorem Pre.mem {l l' : List Addr} (p : Pre l l') {a : Addr} (h : a ∈ l) : a ∈ l' := by
  obtain ⟨r, rfl⟩ := p
  exact List.mem_append_left _ h

section
variable {C : Ct} {F F' : Hp} {am am' : List Addr}
mutual
theorem Den.mono (s : Sub F F') (p : Pre am am') : ∀ {d : D} {v : V}, Den C F am v d → Den C F' am' v d
  | _, _, .non => .non
  | _, _, .bl b => .bl b
  | _, _, .int i => .int i
  | _, _, .str x => .str x
  | _, _, .lst h t => .lst (s _ _ h) (DenL.mono s p t)
  | _, _, .sc h t => .sc (s.sqL h) (DenL.mono s p t)
  | _, _, .tup h t => .tup (s.sqT h) (DenL.mono s p t)
  | _, _, .fn h => .fn h
  | _, _, .mu h => .mu (p.get h)
  | _, _, .ed h => .ed (s _ _ h)
theorem DenL.mono (s : Sub F F') (p : Pre am am') : ∀ {ds : List D} {vs : List V}, DenL C F am vs ds → DenL C F' am' vs ds
  | _, _, .nil => .nil
  | _, _, .cons h t => .cons (Den.mono s p h) (DenL.mono s p t)
end
theorem DenL.length : ∀ {ds : List D} {vs : List V}, DenL C F am vs ds → vs.length = ds.length
  | _, _, .nil => rfl
  | _, _, .cons _ t => by rw [List.length_cons, List.length_cons, DenL.length t]
theorem DenL.get : ∀ {ds : List D} {vs : List V} {i : Nat} {v : V}, DenL C F am vs ds → vs[i]? = some v → ∃ d, ds[i]? = some d ∧ Den C F am v d
  | _, _, _, _, .nil, h => by simp at h
  | _, _, 0, _, .cons h _, e => by simp at e; subst e; exact ⟨_, rfl, h⟩
  | _, _, i + 1, v, .cons _ t, e => by
    obtain ⟨d, h1, h2⟩ := DenL.get (i := i) (v := v) t (by simpa using e)
    exact ⟨d, by simpa using h1, h2⟩
theorem DenL.get' : ∀ {ds : List D} {vs : List V} {i : Nat} {d : D}, DenL C F am vs ds → ds[i]? = some d → ∃ v, vs[i]? = some v ∧ Den C F am v d
  | _, _, _, _, .nil, h => by simp at h
  | _, _, 0, _, .cons h _, e => by simp at e; subst e; exact ⟨_, rfl, h⟩
  | _, _, i + 1, d, .cons _ t, e => by
    obtain ⟨v, h1, h2⟩ := DenL.get' (i := i) (d := d) t (by simpa using e)
    exact ⟨v, by simpa using h1, h2⟩
theorem DenL.append : ∀ {ds es : List D} {vs ws : List V}, DenL C F am vs ds → DenL C F am ws es → DenL C F am (vs ++ ws) (ds ++ es)
  | _, _, _, _, .nil, s => s
  | _, _, _, _, .cons r t, s => .cons r (DenL.append t s)
theorem DenL.one {v : V} {d : D} (h : Den C F am v d) : DenL C F am [v] [d] := .cons h .nil
theorem DenL.take : ∀ {ds : List D} {vs : List V} (n : Nat), DenL C F am vs ds → DenL C F am (vs.take n) (ds.take n)
  | _, _, 0, _ => .nil
  | _, _, _ + 1, .nil => .nil
  | _, _, n + 1, .cons r t => .cons r (DenL.take n t)
theorem DenL.drop : ∀ {ds : List D} {vs : List V} (n : Nat), DenL C F am vs ds → DenL C F am (vs.drop n) (ds.drop n)
  | _, _, 0, r => r
  | _, _, _ + 1, .nil => .nil
  | _, _, n + 1, .cons _ t => DenL.drop n t
theorem DenL.set {v : V} {d : D} (h : Den C F am v d) : ∀ {ds : List D} {vs : List V} (n : Nat), DenL C F am vs ds → DenL C F am (vs.set n v) (ds.set n d)
  | _, _, _, .nil => .nil
  | _, _, 0, .cons _ t => .cons h t
  | _, _, n + 1, .cons r t => .cons r (DenL.set h n t)
theorem DenL.reverse : ∀ {ds : List D} {vs : List V}, DenL C F am vs ds → DenL C F am vs.reverse ds.reverse
  | _, _, .nil => .nil
  | _, _, .cons r t => by
    rw [List.reverse_cons, List.reverse_cons]
    exact DenL.append (DenL.reverse t) (.one r)
theorem DenL.eraseIdx : ∀ {ds : List D} {vs : List V} (n : Nat), DenL C F am vs ds → DenL C F am (vs.eraseIdx n) (ds.eraseIdx n)
  | _, _, _, .nil => .nil
  | _, _, 0, .cons _ t => t
  | _, _, n + 1, .cons r t => .cons r (DenL.eraseIdx n t)
theorem DenL.ints : ∀ {ns : List Int} {vs : List V}, DenL C F am vs (ns.map .int) → vs = ns.map V.int
  | [], _, h => by cases h; rfl
  | n :: ns, _, h => by
    cases h with
    | cons h t =>
      cases h
      rw [DenL.ints t]
      rfl
theorem DenL.ofInts : ∀ ns : List Int, DenL C F am (ns.map V.int) (ns.map .int)
  | [] => .nil
  | n :: ns => .cons (.int n) (DenL.ofInts ns)
end

/-- how a reading ends -/
structure Ex where
  cls : Str
  args : List (Str × D)
abbrev S := List (List D)
inductive R (α : Type) where
  | ok (a : α) (s : S)
  | exc (x : Ex) (s : S)
  | bad
def R.bind {α β : Type} : R α → (α → S → R β) → R β
  | .ok a s, k => k a s
  | .exc x s, _ => .exc x s
  | .bad, _ => .bad
def R.sat {α : Type} (r : R α) (P : α → S → Prop) (PX : Ex → S → Prop) : Prop :=
  match r with
  | .ok a s => P a s
  | .exc x s => PX x s
  | .bad => False
theorem R.sat_bind {α β : Type} {r : R α} {k : α → S → R β} {P : β → S → Prop} {PX : Ex → S → Prop} (h : (r.bind k).sat P PX) : r.sat (fun a s => (k a s).sat P PX) PX := by
  cases r <;> exact h
theorem R.sat_mono {α : Type} {r : R α} {P P' : α → S → Prop} {PX PX' : Ex → S → Prop} (h : r.sat P PX) (f : ∀ a s, P a s → P' a s) (g : ∀ x s, PX x s → PX' x s) : r.sat P' PX' := by
  cases r with
  | ok a s => exact f _ _ h
  | exc x s => exact g _ _ h
  | bad => exact h
/-- a name's place -/
inductive Sl where
  | un
  | fz (d : D)
  | ow (ds : List D)
  | sh (ds : List D)
  | rv
abbrev En := List Sl
/-- the ghost: what is frozen, where the store's lists lie, what a new list of one's own is not -/
structure Gh where
  F : Hp
  am : List Addr
  nd : Addr → Prop
abbrev DenG (C : Ct) (g : Gh) : V → D → Prop := Den C g.F g.am
abbrev DenGL (C : Ct) (g : Gh) : List V → List D → Prop := DenL C g.F g.am

/-- nothing lies there, or a table of code objects -/
def Vac (H : Hp) (b : Addr) : Prop := ∀ o, H b = some o → ∃ ps, o = .tbl ps
theorem vac_none {H : Hp} {b : Addr} (h : H b = none) : Vac H b := fun o e => by rw [h] at e; cases e
theorem Vac.no {H : Hp} {b : Addr} {o : HO} (v : Vac H b) (h : H b = some o) (n : ∀ ps, o ≠ .tbl ps) : False := let ⟨ps, e⟩ := v o h; n ps e
theorem Vac.ne {H : Hp} {a b : Addr} {o : HO} (v : Vac H a) (h : H b = some o) (n : ∀ ps, o ≠ .tbl ps) : b ≠ a := fun e => v.no (by rw [← e]; exact h) n
theorem vac_back {H H' : Hp} {b : Addr} (k : ∀ o, H b = some o → (∀ ps, o ≠ .tbl ps) → ∃ o', H' b = some o' ∧ ∀ ps, o' ≠ .tbl ps) (v : Vac H' b) : Vac H b := fun o e => by
  by_cases z : ∃ ps, o = .tbl ps
  · exact z
  · obtain ⟨o', e', n'⟩ := k o e (fun ps q => z ⟨ps, q⟩)
    exact (v.no e' n').elim
theorem codeO_tbl {c : Addr} {q : Str} : ∀ ps, LamX.CodeO c q ≠ .tbl ps := fun ps => LamX.codeO_ne ps
/-- the store and the frozen heap -/
structure SR (C : Ct) (g : Gh) (s : S) (H : Hp) : Prop where
  sub : Sub g.F H
  len : g.am.length = s.length
  nd : g.am.Nodup
  st : ∀ (n : Nat) (ds : List D), s[n]? = some ds → ∃ a vs, g.am[n]? = some a ∧ H a = some (.lst vs) ∧ g.F a = none ∧ DenGL C g vs ds
  tab : LamX.Tabs C.T H
  ndo : ∀ a, g.nd a → ¬ Vac H a
  nt : ∀ b ps, g.F b ≠ some (.tbl ps)
def SlOk (C : Ct) (g : Gh) (σ : L2.St) (H : Hp) (i : Nat) : Sl → Prop
  | .un => True
  | .fz d => ∃ v, σ[i]? = some (some v) ∧ DenG C g v d
  | .ow ds => ∃ a vs, σ[i]? = some (some (.ref a)) ∧ H a = some (.lst vs) ∧ g.F a = none ∧ a ∉ g.am ∧ DenGL C g vs ds
  | .sh ds => ∃ a vs, σ[i]? = some (some (.ref a)) ∧ DenGL C g vs ds ∧ (g.F a = some (.lst vs) ∨ (H a = some (.lst vs) ∧ g.F a = none ∧ a ∉ g.am))
  | .rv => σ[i]? = some (some C.rv)
def OwAt (env : En) (σ : L2.St) (i : Nat) (a : Addr) : Prop := (∃ ds, env[i]? = some (.ow ds)) ∧ σ[i]? = some (some (.ref a))
def AdAt (env : En) (σ : L2.St) (i : Nat) (a : Addr) : Prop := (∃ ds, env[i]? = some (.ow ds) ∨ env[i]? = some (.sh ds)) ∧ σ[i]? = some (some (.ref a))
structure Rel (C : Ct) (g : Gh) (env : En) (s : S) (σ : L2.St) (H : Hp) : Prop extends SR C g s H where
  slen : σ.length = env.length
  sl : ∀ (i : Nat) (x : Sl), env[i]? = some x → SlOk C g σ H i x
  ap : ∀ (i j : Nat) (a : Addr), OwAt env σ i a → AdAt env σ j a → i = j

structure Step (g : Gh) (H : Hp) (g' : Gh) (H' : Hp) : Prop where
  F : Sub g.F g'.F
  am : Pre g.am g'.am
  Fn : ∀ b o, g'.F b = some o → g.F b = some o ∨ Vac H b
  an : ∀ a, a ∈ g'.am → a ∈ g.am ∨ Vac H a
  kp : ∀ b o, H b = some o → b ∉ g.am → (∀ ps, o ≠ .tbl ps) → H' b = some o
  dm : ∀ b, Vac H' b → Vac H b
  nd : g'.nd = g.nd
theorem Step.refl (g : Gh) (H : Hp) : Step g H g H := ⟨.refl _, .refl _, fun _ _ h => .inl h, fun _ h => .inl h, fun _ _ h _ _ => h, fun _ h => h, rfl⟩
theorem Step.trans {g g1 g2 : Gh} {H H1 H2 : Hp} (a : Step g H g1 H1) (b : Step g1 H1 g2 H2) : Step g H g2 H2 where
  F := a.F.trans b.F
  am := a.am.trans b.am
  Fn := fun c o h => (b.Fn c o h).elim (a.Fn c o) fun h => .inr (a.dm c h)
  an := fun c h => (b.an c h).elim (a.an c) fun h => .inr (a.dm c h)
  kp := fun c o h n t => b.kp c o (a.kp c o h n t) (fun m => by
    rcases a.an c m with z | z
    · exact n z
    · exact z.no h t) t
  dm := fun c h => a.dm c (b.dm c h)
  nd := b.nd.trans a.nd
section
variable {C : Ct} {g g' : Gh} {s s' : S} {env : En} {σ : L2.St} {H H' : Hp}
theorem Step.den (t : Step g H g' H') {v : V} {d : D} (h : DenG C g v d) : DenG C g' v d := h.mono t.F t.am
theorem Step.denL (t : Step g H g' H') {v : List V} {d : List D} (h : DenGL C g v d) : DenGL C g' v d := h.mono t.F t.am
/-- an object beside the frozen ones stays beside them -/
theorem Step.off (t : Step g H g' H') {a : Addr} {o : HO} (h : H a = some o) (n : g.F a = none) (k : ∀ ps, o ≠ .tbl ps := by intro ps z; cases z) : g'.F a = none := by
  cases q : g'.F a with
  | none => rfl
  | some u =>
    rcases t.Fn _ _ q with z | z
    · rw [n] at z; cases z
    · exact (z.no h k).elim
theorem Step.noam (t : Step g H g' H') {a : Addr} {o : HO} (h : H a = some o) (n : a ∉ g.am) (k : ∀ ps, o ≠ .tbl ps := by intro ps z; cases z) : a ∉ g'.am := fun m => by
  rcases t.an _ m with z | z
  · exact n z
  · exact z.no h k
theorem lst_tbl {vs : List V} : ∀ ps, (HO.lst vs) ≠ .tbl ps := fun _ z => by cases z
theorem tup_tbl {vs : List V} : ∀ ps, (HO.tup vs) ≠ .tbl ps := fun _ z => by cases z
theorem SlOk.step (t : Step g H g' H') {i : Nat} {x : Sl} (h : SlOk C g σ H i x) : SlOk C g' σ H' i x := by
  cases x with
  | un => trivial
  | rv => exact h
  | fz d =>
    obtain ⟨v, e, q⟩ := h
    exact ⟨v, e, t.den q⟩
  | ow ds =>
    obtain ⟨a, vs, e, q, n, m, l⟩ := h
    exact ⟨a, vs, e, t.kp _ _ q m lst_tbl, t.off q n, t.noam q m, t.denL l⟩
  | sh ds =>
    obtain ⟨a, vs, e, l, q⟩ := h
    refine ⟨a, vs, e, t.denL l, ?_⟩
    rcases q with q | ⟨q, n, m⟩
    · exact .inl (t.F _ _ q)
    · exact .inr ⟨t.kp _ _ q m lst_tbl, t.off q n, t.noam q m⟩
theorem Rel.step (r : Rel C g env s σ H) (t : Step g H g' H') (q : SR C g' s' H') : Rel C g' env s' σ H' :=
  { q with slen := r.slen, sl := fun i x h => (r.sl i x h).step t, ap := r.ap }
end

/-- an exception, as it lies -/
def XR (C : Ct) (g : Gh) (H : Hp) (x : Ex) (c : Value) (dx : Option Addr) : Prop :=
  ∃ a, c = .ref a ∧ C.mg x.cls = some (.ref a) ∧ ((x.args = [] ∧ dx = none) ∨ ∃ d fs, x.args ≠ [] ∧ dx = some d ∧ H d = some (.xd fs) ∧ fs.map (·.1) = x.args.map (·.1) ∧ DenGL C g (fs.map (·.2)) (x.args.map (·.2)))
abbrev RR (α : Type) := Gh → Hp → V → α → Prop
/-- what is wanted behind an expression's value; behind its exception -/
def Gv {α : Type} (C : Ct) (Rr : RR α) (g : Gh) (H : Hp) (Q : VK) : α → S → Prop := fun a s' => ∀ g' v H', Step g H g' H' → SR C g' s' H' → Rr g' H' v a → Q v H'
def PX (C : Ct) (W : WX) (σ : L2.St) (g : Gh) (H : Hp) : Ex → S → Prop := fun x s' => ∀ g' c dx H', Step g H g' H' → SR C g' s' H' → XR C g' H' x c dx → W c dx σ H'
abbrev M (α : Type) := En → S → R α
/-- an expression's reading by m -/
def tG {α : Type} (C : Ct) (W : WX) (Rr : RR α) (m : M α) : TE := fun σ H Q => ∃ g env s, Rel C g env s σ H ∧ (m env s).sat (Gv C Rr g H Q) (PX C W σ g H)
/-- it stays over steps -/
def Stays {α : Type} (Rr : RR α) : Prop := ∀ g H g' H' v a, Step g H g' H' → Rr g H v a → Rr g' H' v a
abbrev rD (C : Ct) : RR D := fun g _ v d => DenG C g v d
theorem stays_D (C : Ct) : Stays (rD C) := fun _ _ _ _ _ _ t h => t.den h
/-- a list (own or frozen) or a tuple, as an operand -/
def rQ (C : Ct) : RR (Bool × List D) := fun g H v a => ∃ p vs, v = .ref p ∧ DenGL C g vs a.2 ∧ ((a.1 = true ∧ SqT C.K g.F p vs) ∨ (a.1 = false ∧ (g.F p = some (.lst vs) ∨ (H p = some (.lst vs) ∧ p ∉ g.am))))
theorem stays_Q (C : Ct) : Stays (rQ C) := fun g H g' H' v a t h => by
  obtain ⟨p, vs, e, l, q⟩ := h
  refine ⟨p, vs, e, t.denL l, ?_⟩
  rcases q with ⟨b, q⟩ | ⟨b, q | ⟨q, n⟩⟩
  · exact .inl ⟨b, t.F.sqT q⟩
  · exact .inr ⟨b, .inl (t.F _ _ q)⟩
  · exact .inr ⟨b, .inr ⟨t.kp _ _ q n lst_tbl, t.noam q n⟩⟩
theorem rQ.at {C : Ct} {g : Gh} {H : Hp} {v : V} {a : Bool × List D} (sub : Sub g.F H) (h : rQ C g H v a) : ∃ p vs, v = .ref p ∧ DenGL C g vs a.2 ∧ ((a.1 = true ∧ SqT C.K H p vs) ∨ (a.1 = false ∧ H p = some (.lst vs))) := by
  obtain ⟨p, vs, e, l, q⟩ := h
  refine ⟨p, vs, e, l, ?_⟩
  rcases q with ⟨b, q⟩ | ⟨b, q | ⟨q, n⟩⟩
  · exact .inl ⟨b, sub.sqT q⟩
  · exact .inr ⟨b, sub _ _ q⟩
  · exact .inr ⟨b, q⟩
section
variable {α β γ : Type} {C : Ct} {W : WX} {R1 : RR α} {R2 : RR β} {R3 : RR γ} {σ : L2.St} {H : Hp} {Q : VK}
theorem Gv.step {g g1 : Gh} {H1 : Hp} {a : α} {s : S} (t : Step g H g1 H1) (h : Gv C R1 g H Q a s) : Gv C R1 g1 H1 Q a s := fun g' v H' u q r => h g' v H' (t.trans u) q r
theorem PX.step {g g1 : Gh} {H1 : Hp} {x : Ex} {s : S} (t : Step g H g1 H1) (h : PX C W σ g H x s) : PX C W σ g1 H1 x s := fun g' c dx H' u q r => h g' c dx H' (t.trans u) q r
/-- two readings, one behind the other -/
theorem tG_bind {m : M α} {k : α → M β} (h : tG C W R2 (fun env s => (m env s).bind fun a => k a env) σ H Q) :
    tG C W R1 m σ H (fun v H1 => ∃ g1 env s1 a, Rel C g1 env s1 σ H1 ∧ R1 g1 H1 v a ∧ (k a env s1).sat (Gv C R2 g1 H1 Q) (PX C W σ g1 H1)) := by
  obtain ⟨g, env, s, r, h⟩ := h
  refine ⟨g, env, s, r, R.sat_mono (R.sat_bind h) (fun a s1 q g1 v H1 t sr ra => ?_) fun x s' q => q⟩
  exact ⟨g1, env, s1, a, r.step t sr, ra, R.sat_mono q (fun _ _ => Gv.step t) fun _ _ => PX.step t⟩
theorem tG_imp {m : M α} {Q' : VK} (h : tG C W R1 m σ H Q) (f : ∀ v H', Q v H' → Q' v H') : tG C W R1 m σ H Q' := by
  obtain ⟨g, env, s, r, h⟩ := h
  exact ⟨g, env, s, r, R.sat_mono h (fun a s' q g' v H' t sr ra => f _ _ (q g' v H' t sr ra)) fun _ _ q => q⟩
end
/-- a derivation's weakening -/
theorem pe_imp {X : Cx} {e : Expr} {t t' : TE} (h : PE X e t) (f : ∀ σ H Q, t' σ H Q → t σ H Q) : PE X e t' := ⟨fun pins s σ H Q I q => h.run pins s σ H Q I (f σ H Q q)⟩
theorem pt_imp {X : Cx} {e : Expr} {t t' : TT} (h : PT X e t) (f : ∀ σ H Q, t' σ H Q → t σ H Q) : PT X e t' := ⟨fun pins s σ H Q I q => h.run pins s σ H Q I (f σ H Q q)⟩
theorem ps_imp {X : Cx} {st : Stmt} {t t' : TS} (h : PS X st t) (f : ∀ D σ H, t' D σ H → t D σ H) : PS X st t' := ⟨fun pins s σ H D I q => h.run pins s σ H D I (f D σ H q)⟩
theorem pss_imp {X : Cx} {st : List Stmt} {t t' : TS} (h : PSs X st t) (f : ∀ D σ H, t' D σ H → t D σ H) : PSs X st t' := ⟨fun pins s σ H D I q => h.run pins s σ H D I (f D σ H q)⟩
theorem pa_imp {X : Cx} {es : List Expr} {t t' : TA} (h : PA X es t) (f : ∀ σ H Q, t' σ H Q → t σ H Q) : PA X es t' := ⟨fun pos pins s σ H Q I q => h.run pos pins s σ H Q I (f σ H Q q)⟩

/-- what a place's context must be -/
structure At (T : Tb) (X : Cx) (W : WX) (rp : Bool) : Prop where
  un : X.A.units + 150 < cLine
  gd : rp = true → X.A.guards = some []
  nd : X.N.Nodup
  tk : Takes X W
abbrev ct (T : Tb) (X : Cx) : Ct := ⟨X.K, X.mg, T.T, T.rv⟩
abbrev tD (C : Ct) (W : WX) (m : M D) : TE := tG C W (rD C) m
/-- the expression e is read by m -/
abbrev DE (T : Tb) (X : Cx) (W : WX) (e : Expr) (m : M D) : Prop := PE X e (tD (ct T X) W m)
abbrev DQ (T : Tb) (X : Cx) (W : WX) (e : Expr) (m : M (Bool × List D)) : Prop := PE X e (tG (ct T X) W (rQ (ct T X)) m)
end Dn

set_option Elab.async false
set_option linter.all false
set_option maxRecDepth 100000
set_option maxHeartbeats 4000000
namespace Dn
open PySem PySem.Spec PyProof.Rows L2
def R.lift {α : Type} (o : Option α) (s : S) : R α := match o with | some a => .ok a s | none => .bad
/-! ### new objects -/
section
variable {C : Ct} {g : Gh} {s : S} {H : Hp} {p : Addr} {o : HO}
theorem ne_new {b : Addr} {u : HO} (np : H p = none) (h : H b = some u) : b ≠ p := fun z => by rw [z, np] at h; cases h
theorem SR.offF (q : SR C g s H) (np : H p = none) : g.F p = none := by
  cases e : g.F p with
  | none => rfl
  | some u => rw [q.sub _ _ e] at np; cases np
theorem sub_new (q : SR C g s H) (np : H p = none) : Sub g.F (upd g.F p o) := fun b u h => by
  rw [upd_ne (ne_new (q.offF np) h)]; exact h
theorem sr_new (q : SR C g s H) (np : H p = none) (no : ∀ ps, o ≠ .tbl ps := by intro ps z; cases z) : SR C ⟨upd g.F p o, g.am, g.nd⟩ s (upd H p o) where
  sub := fun b u h => by
    have h : upd g.F p o b = some u := h
    by_cases e : b = p
    · subst e; rw [upd_same] at h ⊢; exact h
    · rw [upd_ne e] at h ⊢; exact q.sub _ _ h
  len := q.len
  nd := q.nd
  st := fun n ds h => by
    obtain ⟨a, vs, h1, h2, h3, h4⟩ := q.st n ds h
    have e := ne_new np h2
    exact ⟨a, vs, h1, by rw [upd_ne e]; exact h2, by show upd g.F p o a = none; rw [upd_ne e]; exact h3, h4.mono (sub_new q np) (.refl _)⟩
  tab := q.tab.ext fun b u h => by rw [upd_ne (ne_new np h)]; exact h
  ndo := fun b h z => q.ndo b h (vac_back (fun o e n => ⟨o, by rw [upd_ne (ne_new np e)]; exact e, n⟩) z)
  nt := fun b ps e => by
    have e : upd g.F p o b = some (.tbl ps) := e
    by_cases k : b = p
    · rw [k, upd_same] at e; exact no ps (Option.some.inj e)
    · rw [upd_ne k] at e; exact q.nt _ _ e
theorem step_new (q : SR C g s H) (np : H p = none) : Step g H ⟨upd g.F p o, g.am, g.nd⟩ (upd H p o) where
  F := sub_new q np
  am := .refl _
  Fn := fun b u h => by
    by_cases e : b = p
    · subst e; exact .inr (vac_none np)
    · have h : upd g.F p o b = some u := h
      rw [upd_ne e] at h; exact .inl h
  an := fun a h => .inl h
  kp := fun b u h _ _ => by rw [upd_ne (ne_new np h)]; exact h
  dm := fun b h => vac_back (fun o e n => ⟨o, by rw [upd_ne (ne_new np e)]; exact e, n⟩) h
  nd := rfl
/-- a new object beside the frozen ones -/
theorem sr_own (q : SR C g s H) (np : H p = none) : SR C g s (upd H p o) where
  sub := fun b u h => by rw [upd_ne (ne_new (q.offF np) h)]; exact q.sub _ _ h
  len := q.len
  nd := q.nd
  st := fun n ds h => by
    obtain ⟨a, vs, h1, h2, h3, h4⟩ := q.st n ds h
    exact ⟨a, vs, h1, by rw [upd_ne (ne_new np h2)]; exact h2, h3, h4⟩
  tab := q.tab.ext fun b u h => by rw [upd_ne (ne_new np h)]; exact h
  ndo := fun b h z => q.ndo b h (vac_back (fun o e n => ⟨o, by rw [upd_ne (ne_new np e)]; exact e, n⟩) z)
  nt := q.nt
theorem step_own (np : H p = none) : Step g H g (upd H p o) where
  F := .refl _
  am := .refl _
  Fn := fun b u h => .inl h
  an := fun a h => .inl h
  kp := fun b u h _ _ => by rw [upd_ne (ne_new np h)]; exact h
  dm := fun b h => vac_back (fun o e n => ⟨o, by rw [upd_ne (ne_new np e)]; exact e, n⟩) h
  nd := rfl
variable {α : Type} {Rr : RR α} {Q : VK} {a : α}
theorem Gv.here {v : V} (h : Gv C Rr g H Q a s) (q : SR C g s H) (r : Rr g H v a) : Q v H := h g v H (Step.refl _ _) q r
theorem Gv.tup {vs : List V} {ds : List D} (h : Gv C (rD C) g H Q (.tuple ds) s) (q : SR C g s H) (l : DenGL C g vs ds) (np : H p = none) : Q (.ref p) (upd H p (.tup vs)) :=
  h _ _ _ (step_new q np) (sr_new q np) (.tup (.inl (.inl upd_same)) (l.mono (sub_new q np) (.refl _)))
theorem Gv.lst {vs : List V} {ds : List D} (h : Gv C (rD C) g H Q (.list ds) s) (q : SR C g s H) (l : DenGL C g vs ds) (np : H p = none) : Q (.ref p) (upd H p (.lst vs)) :=
  h _ _ _ (step_new q np) (sr_new q np) (.lst upd_same (l.mono (sub_new q np) (.refl _)))
end

/-! ### operations of two -/
def OpD (T : Tb) (X : Cx) {α β γ : Type} (Ra : RR α) (Rb : RR β) (Rr : RR γ) (h : Value → Value → Sem Value) (f : α → β → S → Option γ) : Prop :=
  ∃ r : L2.R2, OpR X h r ∧ ∀ (g : Gh) (s : S) (H : Hp) (x y : V) (a : α) (b : β) (c : γ) (Q : VK), SR (ct T X) g s H → Ra g H x a → Rb g H y b → f a b s = some c → Gv (ct T X) Rr g H Q c s → r x y H Q
theorem OpD.or {T : Tb} {X : Cx} {α β γ : Type} {Ra : RR α} {Rb : RR β} {Rr : RR γ} {h : Value → Value → Sem Value} {f f' : α → β → S → Option γ} (k : OpD T X Ra Rb Rr h f) (k' : OpD T X Ra Rb Rr h f') :
    OpD T X Ra Rb Rr h fun a b s => (f a b s).or (f' a b s) := by
  obtain ⟨r, o, q⟩ := k
  obtain ⟨r', o', q'⟩ := k'
  refine ⟨_, OpR.or o o', fun g s H x y a b c Q sr ra rb e hQ => ?_⟩
  have e : (f a b s).or (f' a b s) = some c := e
  cases e1 : f a b s with
  | some d =>
    rw [e1] at e
    exact .inl (q g s H x y a b c Q sr ra rb (e1.trans e) hQ)
  | none =>
    rw [e1] at e
    exact .inr (q' g s H x y a b c Q sr ra rb e hQ)
def mBin {α β γ : Type} (f : α → β → S → Option γ) (ma : M α) (mb : M β) : M γ := fun env s => (ma env s).bind fun a s1 => (mb env s1).bind fun b s2 => R.lift (f a b s2) s2
section
variable {T : Tb} {X : Cx} {W : WX} {α β γ : Type} {Ra : RR α} {Rb : RR β} {Rr : RR γ} {f : α → β → S → Option γ} {ma : M α} {mb : M β} {a b : Expr} {pos : Pos}
theorem bin_core {r : L2.R2} (s1 : Stays Ra) (hr : ∀ (g : Gh) (s : S) (H : Hp) (x y : V) (a : α) (b : β) (c : γ) (Q : VK), SR (ct T X) g s H → Ra g H x a → Rb g H y b → f a b s = some c → Gv (ct T X) Rr g H Q c s → r x y H Q)
    (σ : L2.St) (H : Hp) (Q : VK) (h : tG (ct T X) W Rr (mBin f ma mb) σ H Q) : tOp r (tG (ct T X) W Ra ma) (tG (ct T X) W Rb mb) σ H Q := by
  show tG (ct T X) W Ra ma σ H fun x H1 => tG (ct T X) W Rb mb σ H1 fun y H2 => r x y H2 Q
  refine tG_imp (tG_bind (R1 := Ra) (m := ma) (k := fun a env s1 => (mb env s1).bind fun b s2 => R.lift (f a b s2) s2) h) fun v H1 ⟨g1, env, s1', a, rel, ra, q⟩ => ?_
  refine ⟨g1, env, s1', rel, R.sat_mono (R.sat_bind q) (fun b s2 q2 g2 w H2 t sr rb => ?_) fun _ _ q => q⟩
  cases e : f a b s2 with
  | none => rw [e] at q2; exact q2.elim
  | some c =>
    rw [e] at q2
    exact hr g2 s2 H2 v w a b c Q sr (s1 _ _ _ _ _ _ t ra) rb e (Gv.step t q2)
theorem de_op {op : Operator} (s1 : Stays Ra) (o : OpD T X Ra Rb Rr (binaryOp op) f) (ha : PE X a (tG (ct T X) W Ra ma)) (hb : PE X b (tG (ct T X) W Rb mb)) : PE X (.BinOp a op b pos) (tG (ct T X) W Rr (mBin f ma mb)) := by
  obtain ⟨r, ho, hr⟩ := o
  exact pe_imp (pe_op ho ha hb) (bin_core s1 hr)
theorem de_cmp {op : CmpOp} (s1 : Stays Ra) (o : OpD T X Ra Rb Rr (compareOp op) f) (ha : PE X a (tG (ct T X) W Ra ma)) (hb : PE X b (tG (ct T X) W Rb mb)) (hm : behindInMarks op b = false := by rfl) : PE X (.Compare a [op] [b] pos) (tG (ct T X) W Rr (mBin f ma mb)) := by
  obtain ⟨r, ho, hr⟩ := o
  exact pe_imp (pe_cmpR ho ha hb hm) (bin_core s1 hr)
end
/-! ### tests -/
def tT (C : Ct) (W : WX) (m : M Bool) : TT := fun σ H Q => ∃ g env s, Rel C g env s σ H ∧ (m env s).sat (fun b s' => ∀ g' H', Step g H g' H' → SR C g' s' H' → Q b H') (PX C W σ g H)
abbrev DT (T : Tb) (X : Cx) (W : WX) (e : Expr) (m : M Bool) : Prop := PT X e (tT (ct T X) W m)
abbrev DW (T : Tb) (X : Cx) (W : WX) (e : Expr) (m : M Bool) : Prop := PW X e (tT (ct T X) W m)
def asB : D → Option Bool
  | .bool b => some b
  | _ => none
def mTest (m : M D) : M Bool := fun env s => (m env s).bind fun d s' => R.lift (asB d) s'
section
variable {T : Tb} {X : Cx} {W : WX} {m ma mb : M D} {a b e c : Expr} {pos : Pos}
theorem test_core (σ : L2.St) (H : Hp) (Q : Bool → Hp → Prop) (h : tT (ct T X) W (mTest m) σ H Q) : tD (ct T X) W m σ H fun x H1 => ∃ c, x = .bl c ∧ Q c H1 := by
  obtain ⟨g, env, s, r, h⟩ := h
  refine ⟨g, env, s, r, R.sat_mono (R.sat_bind h) (fun d s' q g' v H' t sr dn => ?_) fun _ _ q => q⟩
  cases d with
  | bool k =>
    cases dn
    exact ⟨k, rfl, q g' H' t sr⟩
  | _ => exact q.elim
theorem dt_val (h : DE T X W e m) (he : ∀ whole, isTrue e X.env whole = (do let v ← whole; standAt e.pos; holding [v] (truthy v)) := by intro _; rfl) : DT T X W e (mTest m) :=
  pt_imp (pt_val h he) test_core
theorem dt_cmp {α β : Type} {Ra : RR α} {Rb : RR β} {f : α → β → S → Option D} {ma : M α} {mb : M β} {op : CmpOp} (s1 : Stays Ra) (o : OpD T X Ra Rb (rD (ct T X)) (compareOp op) f) (ha : PE X a (tG (ct T X) W Ra ma)) (hb : PE X b (tG (ct T X) W Rb mb))
    (hm : behindInMarks op b = false := by rfl) : DT T X W (.Compare a [op] [b] pos) (mTest (mBin f ma mb)) := by
  obtain ⟨r, ho, hr⟩ := o
  refine pt_imp (pt_cmpR ho ha hb hm) fun σ H Q h => ?_
  exact bin_core s1 hr σ H (fun x H' => ∃ k, x = .bl k ∧ Q k H') (test_core σ H Q h)
def mNot (m : M Bool) : M Bool := fun env s => (m env s).bind fun b s' => .ok (!b) s'
def mAnd (ma mb : M Bool) : M Bool := fun env s => (ma env s).bind fun b s' => if b = true then mb env s' else .ok false s'
def mOr (ma mb : M Bool) : M Bool := fun env s => (ma env s).bind fun b s' => if b = true then .ok true s' else mb env s'
variable {na nb : M Bool} {rest : List Expr}
theorem tT_bind {k : Bool → M Bool} {σ : L2.St} {H : Hp} {Q : Bool → Hp → Prop} {C : Ct} (h : tT C W (fun env s => (na env s).bind fun b => k b env) σ H Q) :
    tT C W na σ H fun b H1 => tT C W (k b) σ H1 Q := by
  obtain ⟨g, env, s, r, h⟩ := h
  refine ⟨g, env, s, r, R.sat_mono (R.sat_bind h) (fun b s' q g' H' t sr => ?_) fun _ _ q => q⟩
  exact ⟨g', env, s', r.step t sr, R.sat_mono q (fun b s2 q2 g2 H2 t2 => q2 g2 H2 (t.trans t2)) fun _ _ => PX.step t⟩
theorem tT_pure {b : Bool} {σ : L2.St} {H : Hp} {Q : Bool → Hp → Prop} {C : Ct} (h : tT C W (fun _ s => .ok b s) σ H Q) : Q b H := by
  obtain ⟨g, env, s, r, h⟩ := h
  exact h g H (Step.refl _ _) r.toSR
theorem dt_not (h : DT T X W e na) : DT T X W (.UnaryOp .Not e pos) (mNot na) := by
  refine pt_imp (pt_not h) fun σ H Q q => ?_
  show tT _ W na σ H fun c H1 => Q (!c) H1
  have := tT_bind (k := fun b _ s => .ok (!b) s) q
  obtain ⟨g, env, s, r, h⟩ := this
  exact ⟨g, env, s, r, R.sat_mono h (fun b s' q g' H' t sr => tT_pure (q g' H' t sr)) fun _ _ q => q⟩
theorem tT_imp {σ : L2.St} {H : Hp} {Q Q' : Bool → Hp → Prop} {C : Ct} (h : tT C W na σ H Q) (f : ∀ b H', Q b H' → Q' b H') : tT C W na σ H Q' := by
  obtain ⟨g, env, s, r, h⟩ := h
  exact ⟨g, env, s, r, R.sat_mono h (fun b s' q g' H' t sr => f _ _ (q g' H' t sr)) fun _ _ q => q⟩
theorem dw_and1 (h : DT T X W e na) : DW T X W (.BoolOp .And [e] pos) na := pw_and1 h
theorem dw_or1 (h : DT T X W e na) : DW T X W (.BoolOp .Or [e] pos) na := pw_or1 h
theorem dw_and (h : DT T X W a na) (k : DW T X W (.BoolOp .And (b :: rest) pos) nb) : DW T X W (.BoolOp .And (a :: b :: rest) pos) (mAnd na nb) := by
  refine ⟨fun whole pins s σ H Q I q => (pw_and h k).run whole pins s σ H Q I ?_⟩
  refine tT_imp (tT_bind (k := fun b env s' => if b = true then nb env s' else .ok false s') q) fun c H1 q => ?_
  cases c with
  | true => exact q
  | false => exact tT_pure q
theorem dw_or (h : DT T X W a na) (k : DW T X W (.BoolOp .Or (b :: rest) pos) nb) : DW T X W (.BoolOp .Or (a :: b :: rest) pos) (mOr na nb) := by
  refine ⟨fun whole pins s σ H Q I q => (pw_or h k).run whole pins s σ H Q I ?_⟩
  refine tT_imp (tT_bind (k := fun b env s' => if b = true then .ok true s' else nb env s') q) fun c H1 q => ?_
  cases c with
  | true => exact tT_pure q
  | false => exact q
theorem dt_w (h : DW T X W e na) : DT T X W e na := h.pt
def mIf {α : Type} (c : M Bool) (ma mb : M α) : M α := fun env s => (c env s).bind fun k s' => if k = true then ma env s' else mb env s'
theorem de_ifExp {α : Type} {Rr : RR α} {ma mb : M α} (hc : DT T X W c na) (ha : PE X a (tG (ct T X) W Rr ma)) (hb : PE X b (tG (ct T X) W Rr mb)) : PE X (.IfExp c a b pos) (tG (ct T X) W Rr (mIf na ma mb)) := by
  refine pe_imp (pe_ifExp hc ha hb) fun σ H Q q => ?_
  obtain ⟨g, env, s, r, h⟩ := q
  refine ⟨g, env, s, r, R.sat_mono (R.sat_bind h) (fun k s' q g' H' t sr => ?_) fun _ _ q => q⟩
  cases k with
  | true => exact ⟨g', env, s', r.step t sr, R.sat_mono q (fun _ _ => Gv.step t) fun _ _ => PX.step t⟩
  | false => exact ⟨g', env, s', r.step t sr, R.sat_mono q (fun _ _ => Gv.step t) fun _ _ => PX.step t⟩
/-! values by and, or, not (all but the last True or False) -/
def mAndV (ma mb : M D) : M D := fun env s => (ma env s).bind fun d s' => match d with | .bool true => mb env s' | .bool false => .ok (.bool false) s' | _ => .bad
def mOrV (ma mb : M D) : M D := fun env s => (ma env s).bind fun d s' => match d with | .bool true => .ok (.bool true) s' | .bool false => mb env s' | _ => .bad
def mNotV (ma : M D) : M D := fun env s => (ma env s).bind fun d s' => match d with | .bool b => .ok (.bool (!b)) s' | _ => .bad
theorem tD_pure {d : D} {v : V} {σ : L2.St} {H : Hp} {Q : VK} {C : Ct} {g : Gh} {s : S} (h : Gv C (rD C) g H Q d s) (sr : SR C g s H) (dn : DenG C g v d) : Q v H := h.here sr dn
theorem de_one {op : BoolOp} (h : DE T X W e m) : DE T X W (.BoolOp op [e] pos) m := pe_one h
theorem de_and (ha : DE T X W a ma) (hb : DE T X W (.BoolOp .And (b :: rest) pos) mb) : DE T X W (.BoolOp .And (a :: b :: rest) pos) (mAndV ma mb) := by
  refine pe_imp (pe_and ha hb) fun σ H Q q => ?_
  obtain ⟨g, env, s, r, h⟩ := q
  refine ⟨g, env, s, r, R.sat_mono (R.sat_bind h) (fun d s' q g' v H' t sr dn => ?_) fun _ _ q => q⟩
  match d, dn, q with
  | .bool true, dn, q =>
    cases dn
    exact ⟨true, rfl, ⟨g', env, s', r.step t sr, R.sat_mono q (fun _ _ => Gv.step t) fun _ _ => PX.step t⟩⟩
  | .bool false, dn, q =>
    cases dn
    exact ⟨false, rfl, (Gv.step t q).here sr (Den.bl false)⟩
theorem de_or (ha : DE T X W a ma) (hb : DE T X W (.BoolOp .Or (b :: rest) pos) mb) : DE T X W (.BoolOp .Or (a :: b :: rest) pos) (mOrV ma mb) := by
  refine pe_imp (pe_or ha hb) fun σ H Q q => ?_
  obtain ⟨g, env, s, r, h⟩ := q
  refine ⟨g, env, s, r, R.sat_mono (R.sat_bind h) (fun d s' q g' v H' t sr dn => ?_) fun _ _ q => q⟩
  match d, dn, q with
  | .bool false, dn, q =>
    cases dn
    exact ⟨false, rfl, ⟨g', env, s', r.step t sr, R.sat_mono q (fun _ _ => Gv.step t) fun _ _ => PX.step t⟩⟩
  | .bool true, dn, q =>
    cases dn
    exact ⟨true, rfl, (Gv.step t q).here sr (Den.bl true)⟩
theorem de_not (ha : DE T X W a ma) : DE T X W (.UnaryOp .Not a pos) (mNotV ma) := by
  refine pe_imp (pe_not ha) fun σ H Q q => ?_
  obtain ⟨g, env, s, r, h⟩ := q
  refine ⟨g, env, s, r, R.sat_mono (R.sat_bind h) (fun d s' q g' v H' t sr dn => ?_) fun _ _ q => q⟩
  match d, dn, q with
  | .bool k, dn, q =>
    cases dn
    exact ⟨k, rfl, (Gv.step t q).here sr (Den.bl _)⟩
end
/-! ### constants, names -/
def mC (d : D) : M D := fun _ s => .ok d s
def mVar (i : Nat) : M D := fun env s => match env[i]? with | some (.fz d) => .ok d s | _ => .bad
def mOwn (i : Nat) : M (Bool × List D) := fun env s => match env[i]? with | some (.fz (.list ds)) => .ok (false, ds) s | some (.fz (.tuple ds)) => .ok (true, ds) s | some (.ow ds) => .ok (false, ds) s | some (.sh ds) => .ok (false, ds) s | _ => .bad
section
variable {T : Tb} {X : Cx} {W : WX} {e : Expr} {pos : Pos}
theorem de_c {v : V} {d : D} (h : PE X e (tC v)) (hd : ∀ g, DenG (ct T X) g v d) : DE T X W e (mC d) :=
  pe_imp h fun σ H Q q => by
    obtain ⟨g, env, s, r, h⟩ := q
    exact h.here r.toSR (hd g)
theorem de_int {i : Int} {j : Nat} : DE T X W (.Constant (.int i) j pos) (mC (.int i)) := de_c pe_int fun _ => .int i
theorem de_str {i : Str} {j : Nat} : DE T X W (.Constant (.str i) j pos) (mC (.str i)) := de_c pe_str fun _ => .str i
theorem de_bl {i : Bool} {j : Nat} : DE T X W (.Constant (.bool i) j pos) (mC (.bool i)) := de_c pe_bl fun _ => .bl i
theorem de_non {j : Nat} : DE T X W (.Constant .none j pos) (mC .none) := de_c pe_non fun _ => .non
theorem de_var {i : Nat} {x : Str} (hN : X.N[i]? = some x) (hv : Vis X.env.scope x) (hd : (x == ("__debug__" : Str)) = false := by decide) (hcd : (x == ("__classdict__" : Str)) = false := by decide) : DE T X W (.Name x pos) (mVar i) := by
  refine pe_imp (pe_var hN hv hd hcd) fun σ H Q q => ?_
  obtain ⟨g, env, s, r, h⟩ := q
  unfold mVar at h
  split at h
  · rename_i d e
    obtain ⟨v, e1, dn⟩ := r.sl i _ e
    exact ⟨v, e1, h.here r.toSR dn⟩
  · exact h.elim
theorem dq_own {i : Nat} {x : Str} (hN : X.N[i]? = some x) (hv : Vis X.env.scope x) (hd : (x == ("__debug__" : Str)) = false := by decide) (hcd : (x == ("__classdict__" : Str)) = false := by decide) : DQ T X W (.Name x pos) (mOwn i) := by
  refine pe_imp (pe_var hN hv hd hcd) fun σ H Q q => ?_
  obtain ⟨g, env, s, r, h⟩ := q
  unfold mOwn at h
  split at h
  · rename_i ds e
    obtain ⟨v, e1, dn⟩ := r.sl i _ e
    cases dn with
    | lst q l => exact ⟨_, e1, h.here r.toSR ⟨_, _, rfl, l, .inr ⟨rfl, .inl q⟩⟩⟩
  · rename_i ds e
    obtain ⟨v, e1, dn⟩ := r.sl i _ e
    cases dn with
    | tup q l => exact ⟨_, e1, h.here r.toSR ⟨_, _, rfl, l, .inl ⟨rfl, q⟩⟩⟩
  · rename_i ds e
    obtain ⟨a, vs, e1, q, n, m, l⟩ := r.sl i _ e
    exact ⟨_, e1, h.here r.toSR ⟨_, _, rfl, l, .inr ⟨rfl, .inr ⟨q, m⟩⟩⟩⟩
  · rename_i ds e
    obtain ⟨a, vs, e1, l, q⟩ := r.sl i _ e
    refine ⟨_, e1, h.here r.toSR ⟨_, _, rfl, l, .inr ⟨rfl, ?_⟩⟩⟩
    rcases q with q | ⟨q, n, m⟩
    · exact .inl q
    · exact .inr ⟨q, m⟩
  · exact h.elim
def asQ : D → Option (Bool × List D)
  | .list ds => some (false, ds)
  | .tuple ds => some (true, ds)
  | _ => none
def mQ (m : M D) : M (Bool × List D) := fun env s => (m env s).bind fun d s' => R.lift (asQ d) s'
theorem dq_of {m : M D} (h : DE T X W e m) : DQ T X W e (mQ m) := by
  refine pe_imp h fun σ H Q q => ?_
  obtain ⟨g, env, s, r, h⟩ := q
  refine ⟨g, env, s, r, R.sat_mono (R.sat_bind h) (fun d s' q g' v H' t sr dn => ?_) fun _ _ q => q⟩
  match d, dn, q with
  | .list ds, dn, q =>
    cases dn with
    | lst k l => exact q g' _ H' t sr ⟨_, _, rfl, l, .inr ⟨rfl, .inl k⟩⟩
  | .tuple ds, dn, q =>
    cases dn with
    | tup k l => exact q g' _ H' t sr ⟨_, _, rfl, l, .inl ⟨rfl, k⟩⟩
/-- a module's name -/
theorem de_gl {x : Str} {v : V} {u : Value} {d : D} (hg : Gl X x) (hm : X.mg x = some u) (r : RelV v u) (hd : ∀ g, DenG (ct T X) g v d) (hdb : (x == ("__debug__" : Str)) = false := by decide) : DE T X W (.Name x pos) (mC d) := de_c (pe_glob hg hm r hdb) hd
theorem de_fn {x : Str} {f : Addr} (hg : Gl X x) (hm : X.mg x = some (.ref f)) (hdb : (x == ("__debug__" : Str)) = false := by decide) : DE T X W (.Name x pos) (mC (fnD x)) := de_gl (v := .ref f) hg hm rfl (fun _ => .fn hm) hdb
/-! ### displays -/
inductive AOk (C : Ct) (g : Gh) (H : Hp) : List Bool → List V → List D → Prop
  | nil : AOk C g H [] [] []
  | val {b : Bool} {v : V} {d : D} {ms : List Bool} {vs : List V} {ds : List D} : DenG C g v d → AOk C g H ms vs ds → AOk C g H (b :: ms) (v :: vs) (d :: ds)
  | shw {p : Addr} {xs : List V} {es : List D} {ms : List Bool} {vs : List V} {ds : List D} : H p = some (.lst xs) → g.F p = none → p ∉ g.am → DenGL C g xs es → AOk C g H ms vs ds → AOk C g H (true :: ms) (.ref p :: vs) (.list es :: ds)
theorem AOk.step {C : Ct} {g g' : Gh} {H H' : Hp} (t : Step g H g' H') : ∀ {ms : List Bool} {vs : List V} {ds : List D}, AOk C g H ms vs ds → AOk C g' H' ms vs ds
  | _, _, _, .nil => .nil
  | _, _, _, .val h r => .val (t.den h) (AOk.step t r)
  | _, _, _, .shw a b c d r => .shw (t.kp _ _ a c lst_tbl) (t.off a b) (t.noam a c) (t.denL d) (AOk.step t r)
theorem AOk.den {C : Ct} {g : Gh} {H : Hp} : ∀ {ms : List Bool} {vs : List V} {ds : List D}, AOk C g H ms vs ds → ms.all (!·) = true → DenGL C g vs ds
  | _, _, _, .nil, _ => .nil
  | _, _, _, .val h r, e => by
    rw [List.all_cons, Bool.and_eq_true] at e
    exact .cons h (AOk.den r e.2)
  | _, _, _, .shw a b c d r, e => by simp at e
theorem AOk.length {C : Ct} {g : Gh} {H : Hp} : ∀ {ms : List Bool} {vs : List V} {ds : List D}, AOk C g H ms vs ds → vs.length = ms.length ∧ ds.length = ms.length
  | _, _, _, .nil => ⟨rfl, rfl⟩
  | _, _, _, .val h r => by simp [AOk.length r]
  | _, _, _, .shw a b c d r => by simp [AOk.length r]
def tA (C : Ct) (W : WX) (ms : List Bool) (m : M (List D)) : TA := fun σ H Q => ∃ g env s, Rel C g env s σ H ∧ (m env s).sat (fun ds s' => ∀ g' vs H', Step g H g' H' → SR C g' s' H' → AOk C g' H' ms vs ds → Q vs H') (PX C W σ g H)
abbrev DA (T : Tb) (X : Cx) (W : WX) (es : List Expr) (ms : List Bool) (m : M (List D)) : Prop := PA X es (tA (ct T X) W ms m)
def mNil : M (List D) := fun _ s => .ok [] s
def mCons (ma : M D) (mr : M (List D)) : M (List D) := fun env s => (ma env s).bind fun d s1 => (mr env s1).bind fun ds s2 => .ok (d :: ds) s2
def mSh (i : Nat) : M D := fun env s => match env[i]? with | some (.fz d) => .ok d s | some (.ow ds) => .ok (.list ds) s | some (.sh ds) => .ok (.list ds) s | _ => .bad
variable {es : List Expr} {ms : List Bool} {m : M D} {mr : M (List D)}
theorem da_nil : DA T X W [] [] mNil := pa_imp pa_nil fun σ H Q q => by
  obtain ⟨g, env, s, r, h⟩ := q
  exact h g [] H (Step.refl _ _) r.toSR .nil
theorem da_cons {b : Bool} (ha : DE T X W e m) (hr : DA T X W es ms mr) (hs : starEach (e :: es) X.env = (false, eval e X.env) :: starEach es X.env := by rfl) : DA T X W (e :: es) (b :: ms) (mCons m mr) :=
  pa_imp (pa_cons ha hr hs) fun σ H Q q => by
    obtain ⟨g, env, s, r, h⟩ := q
    refine ⟨g, env, s, r, R.sat_mono (R.sat_bind h) (fun d s1 q g1 v H1 t sr dn => ?_) fun _ _ q => q⟩
    refine ⟨g1, env, s1, r.step t sr, R.sat_mono (R.sat_bind q) (fun ds s2 q2 g2 vs H2 t2 sr2 dl => ?_) fun _ _ => PX.step t⟩
    exact q2 g2 _ H2 (t.trans t2) sr2 (.val (t2.den dn) dl)
theorem da_sh {i : Nat} {x : Str} {pos : Pos} (hN : X.N[i]? = some x) (hv : Vis X.env.scope x) (hr : DA T X W es ms mr) (hs : starEach (.Name x pos :: es) X.env = (false, eval (.Name x pos) X.env) :: starEach es X.env := by rfl)
    (hd : (x == ("__debug__" : Str)) = false := by decide) (hcd : (x == ("__classdict__" : Str)) = false := by decide) : DA T X W (.Name x pos :: es) (true :: ms) (mCons (mSh i) mr) :=
  pa_imp (pa_cons (pe_var hN hv hd hcd) hr hs) fun σ H Q q => by
    obtain ⟨g, env, s, r, h⟩ := q
    have fin : ∀ (d : D) (v : V), σ[i]? = some (some v) → (∀ g2 H2, Step g H g2 H2 → ∀ vs ds, AOk (ct T X) g2 H2 ms vs ds → AOk (ct T X) g2 H2 (true :: ms) (v :: vs) (d :: ds)) → ((mr env s).bind fun ds s2 => .ok (d :: ds) s2).sat (fun ds s' => ∀ g' vs H', Step g H g' H' → SR (ct T X) g' s' H' → AOk (ct T X) g' H' (true :: ms) vs ds → Q vs H') (PX (ct T X) W σ g H) →
        tVar i σ H fun x H1 => tA (ct T X) W ms mr σ H1 fun xs H2 => Q (x :: xs) H2 := fun d v ev ha h => by
      refine ⟨v, ev, g, env, s, r, R.sat_mono (R.sat_bind h) (fun ds s2 q2 g2 vs H2 t2 sr2 dl => ?_) fun _ _ q => q⟩
      exact q2 g2 _ H2 t2 sr2 (ha g2 H2 t2 vs ds dl)
    have h' : ((mSh i env s).bind fun d s1 => (mr env s1).bind fun ds s2 => R.ok (d :: ds) s2).sat _ _ := h
    unfold mSh at h'
    split at h'
    · rename_i d e
      obtain ⟨v, e1, dn⟩ := r.sl i _ e
      exact fin d v e1 (fun g2 H2 t vs ds dl => .val (t.den dn) dl) h'
    · rename_i ds e
      obtain ⟨a, vs, e1, q, n, m, l⟩ := r.sl i _ e
      exact fin _ _ e1 (fun g2 H2 t ws es dl => .shw (t.kp _ _ q m lst_tbl) (t.off q n) (t.noam q m) (t.denL l) dl) h'
    · rename_i ds e
      obtain ⟨a, vs, e1, l, q⟩ := r.sl i _ e
      rcases q with q | ⟨q, n, m⟩
      · exact fin _ _ e1 (fun g2 H2 t ws es dl => .val (t.den (.lst q l)) dl) h'
      · exact fin _ _ e1 (fun g2 H2 t ws es dl => .shw (t.kp _ _ q m lst_tbl) (t.off q n) (t.noam q m) (t.denL l) dl) h'
    · exact h'.elim
def mTup (m : M (List D)) : M D := fun env s => (m env s).bind fun ds s' => if ds.length ≤ sizeLine then .ok (.tuple ds) s' else .bad
theorem de_tup {k : Nat} (h : DA T X W es ms mr) (hms : ms.all (!·) = true := by rfl) : DE T X W (.Tuple es k pos) (mTup mr) :=
  pe_imp (pe_tup h) fun σ H Q q => by
    obtain ⟨g, env, s, r, h⟩ := q
    refine ⟨g, env, s, r, R.sat_mono (R.sat_bind h) (fun ds s1 q g1 vs H1 t sr dn => ?_) fun _ _ q => q⟩
    have l := dn.den hms
    by_cases z : ds.length ≤ sizeLine
    · rw [if_pos z] at q
      exact ⟨by rw [l.length]; exact z, fun p np => (Gv.step t q).tup sr l np⟩
    · rw [if_neg z] at q; exact q.elim
end
end Dn

set_option Elab.async false
set_option linter.all false
set_option maxRecDepth 100000
set_option maxHeartbeats 4000000
namespace Dn
open PySem PySem.Spec PyProof.Rows L2
/-- how a statement ends -/
inductive Rs where
  | nx (env : En) (s : S)
  | rt (d : D) (s : S)
  | bk (env : En) (s : S)
  | ct (env : En) (s : S)
  | exc (x : Ex) (env : En) (s : S)
  | bad
abbrev Ms := En → S → Rs
/-- a def's entry (g0, H0), and the ghost that all has grown from -/
structure Bs where
  gb : Gh
  g0 : Gh
  H0 : Hp
structure RelS (C : Ct) (B : Bs) (g : Gh) (env : En) (s : S) (σ : L2.St) (H : Hp) : Prop extends Rel C g env s σ H where
  stp : Step B.g0 B.H0 g H
  nw : ∀ (i : Nat) (a : Addr), OwAt env σ i a → Vac B.H0 a
  fb : Sub B.gb.F g.F
  fa : Pre B.gb.am g.am
def post (C : Ct) (W : WX) (B : Bs) (E : Ends) : Rs → Prop
  | .nx env s => ∀ g σ H, RelS C B g env s σ H → E.nx σ H
  | .rt d s => ∀ g v H, Step B.g0 B.H0 g H → SR C g s H → DenG C g v d → E.rt v H
  | .bk env s => ∀ g σ H, RelS C B g env s σ H → E.bk σ H
  | .ct env s => ∀ g σ H, RelS C B g env s σ H → E.ct σ H
  | .exc x env s => ∀ g c dx σ H, RelS C B g env s σ H → XR C g H x c dx → W c dx σ H
  | .bad => False
def tS (C : Ct) (W : WX) (B : Bs) (m : Ms) : TS := fun E σ H => ∃ g env s, RelS C B g env s σ H ∧ post C W B E (m env s)
abbrev DS (T : Tb) (X : Cx) (W : WX) (B : Bs) (st : Stmt) (m : Ms) : Prop := PS X st (tS (ct T X) W B m)
abbrev DSs (T : Tb) (X : Cx) (W : WX) (B : Bs) (st : List Stmt) (m : Ms) : Prop := PSs X st (tS (ct T X) W B m)
def mOf {α : Type} (m : M α) (k : α → En → S → Rs) : Ms := fun env s => match m env s with | .ok a s' => k a env s' | .exc x s' => .exc x env s' | .bad => .bad
section
variable {C : Ct} {W : WX} {B : Bs} {g g' : Gh} {H H' : Hp} {env : En} {s s' : S} {σ : L2.St} {E : Ends}
theorem RelS.step (r : RelS C B g env s σ H) (t : Step g H g' H') (q : SR C g' s' H') : RelS C B g' env s' σ H' :=
  { r.toRel.step t q with stp := r.stp.trans t, nw := r.nw, fb := r.fb.trans t.F, fa := r.fa.trans t.am }
/-- an expression within a statement -/
theorem tG_ofS {α : Type} {Rr : RR α} {m : M α} {k : α → En → S → Rs} {Q : VK} (r : RelS C B g env s σ H)
    (h : post C W B E (mOf m k env s))
    (f : ∀ a s' g' v H', Step g H g' H' → RelS C B g' env s' σ H' → Rr g' H' v a → post C W B E (k a env s') → Q v H') : tG C W Rr m σ H Q := by
  refine ⟨g, env, s, r.toRel, ?_⟩
  unfold mOf at h
  cases e : m env s with
  | ok a s' =>
    rw [e] at h
    exact fun g' v H' t sr ra => f a s' g' v H' t (r.step t sr) ra h
  | exc x s' =>
    rw [e] at h
    exact fun g' c dx H' t sr xr => h g' c dx σ H' (r.step t sr) xr
  | bad =>
    rw [e] at h
    exact h.elim
theorem tG_of {α : Type} {Rr : RR α} {m : M α} {k : α → En → S → Rs} {Q : VK} (r : RelS C B g env s σ H)
    (h : post C W B E (mOf m k env s))
    (f : ∀ a s' g' v H', RelS C B g' env s' σ H' → Rr g' H' v a → post C W B E (k a env s') → Q v H') : tG C W Rr m σ H Q := tG_ofS r h fun a s' g' v H' _ => f a s' g' v H'
theorem tT_of {m : M Bool} {k : Bool → En → S → Rs} {Q : Bool → Hp → Prop} (r : RelS C B g env s σ H)
    (h : post C W B E (mOf m k env s))
    (f : ∀ a s' g' H', RelS C B g' env s' σ H' → post C W B E (k a env s') → Q a H') : tT C W m σ H Q := by
  refine ⟨g, env, s, r.toRel, ?_⟩
  unfold mOf at h
  cases e : m env s with
  | ok a s' =>
    rw [e] at h
    exact fun g' H' t sr => f a s' g' H' (r.step t sr) h
  | exc x s' =>
    rw [e] at h
    exact fun g' c dx H' t sr xr => h g' c dx σ H' (r.step t sr) xr
  | bad =>
    rw [e] at h
    exact h.elim
/-- a name's place is stored -/
theorem Rel.setFz (r : Rel C g env s σ H) (i : Nat) {v : V} {d : D} (dn : DenG C g v d) : Rel C g (env.set i (.fz d)) s (σ.set i (some v)) H ∧ (∀ j a, OwAt (env.set i (.fz d)) (σ.set i (some v)) j a → OwAt env σ j a) := by
  have ne : ∀ j : Nat, j ≠ i → (σ.set i (some v))[j]? = σ[j]? := fun j h => List.getElem?_set_ne (Ne.symm h)
  have ne' : ∀ j : Nat, j ≠ i → (env.set i (.fz d))[j]? = env[j]? := fun j h => List.getElem?_set_ne (Ne.symm h)
  have at' : ∀ x, (env.set i (.fz d))[i]? = some x → x = .fz d := fun x h => by
    by_cases hi : i < env.length
    · rw [List.getElem?_set_self hi] at h; exact (Option.some.inj h).symm
    · rw [List.getElem?_eq_none (by simpa using hi)] at h; cases h
  have ow : ∀ j a, OwAt (env.set i (.fz d)) (σ.set i (some v)) j a → OwAt env σ j a := fun j a ⟨⟨ds, h1⟩, h2⟩ => by
    by_cases e : j = i
    · subst e; cases at' _ h1
    · rw [ne' j e] at h1; rw [ne j e] at h2; exact ⟨⟨ds, h1⟩, h2⟩
  have ad : ∀ j a, AdAt (env.set i (.fz d)) (σ.set i (some v)) j a → AdAt env σ j a := fun j a ⟨⟨ds, h1⟩, h2⟩ => by
    by_cases e : j = i
    · subst e; rcases h1 with h1 | h1 <;> cases at' _ h1
    · rw [ne' j e] at h1; rw [ne j e] at h2; exact ⟨⟨ds, h1⟩, h2⟩
  refine ⟨{ r.toSR with slen := by rw [List.length_set, List.length_set]; exact r.slen, sl := fun j x h => ?_, ap := fun j k a h1 h2 => r.ap j k a (ow j a h1) (ad k a h2) }, ow⟩
  by_cases e : j = i
  · subst e
    have := at' _ h
    subst this
    have hi : j < env.length := by
      have := (List.getElem?_eq_some_iff.mp h).1
      simpa using this
    exact ⟨v, List.getElem?_set_self (by rw [r.slen]; exact hi), dn⟩
  · rw [ne' j e] at h
    have := r.sl j x h
    cases x with
    | un => trivial
    | rv => exact (ne j e).trans this
    | fz d => obtain ⟨v, a, b⟩ := this; exact ⟨v, by rw [ne j e]; exact a, b⟩
    | ow ds => obtain ⟨a, vs, b, c⟩ := this; exact ⟨a, vs, by rw [ne j e]; exact b, c⟩
    | sh ds => obtain ⟨a, vs, b, c⟩ := this; exact ⟨a, vs, by rw [ne j e]; exact b, c⟩
theorem RelS.setFz (r : RelS C B g env s σ H) (i : Nat) {v : V} {d : D} (dn : DenG C g v d) : RelS C B g (env.set i (.fz d)) s (σ.set i (some v)) H :=
  let ⟨a, b⟩ := r.toRel.setFz i dn
  { a with stp := r.stp, nw := fun j a h => r.nw j a (b j a h), fb := r.fb, fa := r.fa }
/-- a name's place is forgotten -/
theorem Rel.setUn (r : Rel C g env s σ H) (i : Nat) (o : Option V) : Rel C g (env.set i .un) s (σ.set i o) H ∧ (∀ j a, OwAt (env.set i .un) (σ.set i o) j a → OwAt env σ j a) := by
  have ne : ∀ j : Nat, j ≠ i → (σ.set i o)[j]? = σ[j]? := fun j h => List.getElem?_set_ne (Ne.symm h)
  have ne' : ∀ j : Nat, j ≠ i → (env.set i .un)[j]? = env[j]? := fun j h => List.getElem?_set_ne (Ne.symm h)
  have at' : ∀ x, (env.set i .un)[i]? = some x → x = .un := fun x h => by
    by_cases hi : i < env.length
    · rw [List.getElem?_set_self hi] at h; exact (Option.some.inj h).symm
    · rw [List.getElem?_eq_none (by simpa using hi)] at h; cases h
  have ow : ∀ j a, OwAt (env.set i .un) (σ.set i o) j a → OwAt env σ j a := fun j a ⟨⟨ds, h1⟩, h2⟩ => by
    by_cases e : j = i
    · subst e; cases at' _ h1
    · rw [ne' j e] at h1; rw [ne j e] at h2; exact ⟨⟨ds, h1⟩, h2⟩
  have ad : ∀ j a, AdAt (env.set i .un) (σ.set i o) j a → AdAt env σ j a := fun j a ⟨⟨ds, h1⟩, h2⟩ => by
    by_cases e : j = i
    · subst e; rcases h1 with h1 | h1 <;> cases at' _ h1
    · rw [ne' j e] at h1; rw [ne j e] at h2; exact ⟨⟨ds, h1⟩, h2⟩
  refine ⟨{ r.toSR with slen := by rw [List.length_set, List.length_set]; exact r.slen, sl := fun j x h => ?_, ap := fun j k a h1 h2 => r.ap j k a (ow j a h1) (ad k a h2) }, ow⟩
  by_cases e : j = i
  · subst e
    have := at' _ h
    subst this
    trivial
  · rw [ne' j e] at h
    have := r.sl j x h
    cases x with
    | un => trivial
    | rv => exact (ne j e).trans this
    | fz d => obtain ⟨v, a, b⟩ := this; exact ⟨v, by rw [ne j e]; exact a, b⟩
    | ow ds => obtain ⟨a, vs, b, c⟩ := this; exact ⟨a, vs, by rw [ne j e]; exact b, c⟩
    | sh ds => obtain ⟨a, vs, b, c⟩ := this; exact ⟨a, vs, by rw [ne j e]; exact b, c⟩
end
/-! ### the statements -/
def mSeq (a b : Ms) : Ms := fun env s => match a env s with | .nx env' s' => b env' s' | r => r
def mNext : Ms := fun env s => .nx env s
abbrev mDrop {α : Type} (m : M α) : Ms := mOf m fun _ env s => .nx env s
abbrev mRet (m : M D) : Ms := mOf m fun d _ s => .rt d s
def mRetN : Ms := fun _ s => .rt .none s
abbrev mSet (i : Nat) (m : M D) : Ms := mOf m fun d env s => .nx (env.set i (.fz d)) s
abbrev mIfS (c : M Bool) (a b : Ms) : Ms := mOf c fun k env s => if k = true then a env s else b env s
def mBreak : Ms := fun env s => .bk env s
def mCont : Ms := fun env s => .ct env s
section
variable {T : Tb} {X : Cx} {W : WX} {B : Bs} {st : Stmt} {rest : List Stmt} {e : Expr} {pos : Pos} {a b : Ms} {m : M D} {c : M Bool}
theorem dss_nil : DSs T X W B [] mNext := pss_imp pss_nil fun E σ H ⟨g, env, s, r, h⟩ => h g σ H r
theorem seq_core {E : Ends} {σ : L2.St} {H : Hp} {C : Ct} (h : tS C W B (mSeq a b) E σ H) : tSeq (tS C W B a) (tS C W B b) E σ H := by
  obtain ⟨g, env, s, r, h⟩ := h
  refine ⟨g, env, s, r, ?_⟩
  unfold mSeq at h
  cases e : a env s with
  | nx env' s' =>
    rw [e] at h
    exact fun g' σ' H' r' => ⟨g', env', s', r', h⟩
  | rt d s' => rw [e] at h; exact h
  | bk env' s' => rw [e] at h; exact h
  | ct env' s' => rw [e] at h; exact h
  | exc x env' s' => rw [e] at h; exact h
  | bad => rw [e] at h; exact h
theorem dss_cons (h : DS T X W B st a) (k : DSs T X W B rest b) : DSs T X W B (st :: rest) (mSeq a b) := pss_imp (pss_cons h k) fun E σ H q => seq_core q
theorem dss_one (h : DS T X W B st a) : DSs T X W B [st] a := pss_one h
theorem ds_pass : DS T X W B (.Pass pos) mNext := ps_imp ps_pass fun E σ H ⟨g, env, s, r, h⟩ => h g σ H r
theorem ds_break : DS T X W B (.Break pos) mBreak := ps_imp ps_break fun E σ H ⟨g, env, s, r, h⟩ => h g σ H r
theorem ds_continue : DS T X W B (.Continue pos) mCont := ps_imp ps_continue fun E σ H ⟨g, env, s, r, h⟩ => h g σ H r
theorem ds_expr {α : Type} {Rr : RR α} {m : M α} (h : PE X e (tG (ct T X) W Rr m)) (hs : swapsWith e none pos.line X.env = pure false := by rfl) : DS T X W B (.Expr e pos) (mDrop m) :=
  ps_imp (ps_expr h hs) fun E σ H ⟨g, env, s, r, q⟩ => tG_of r q fun d s' g' v H' r' _ q => q g' σ H' r'
theorem ds_ret (h : DE T X W e m) : DS T X W B (.Return (some e) pos) (mRet m) :=
  ps_imp (ps_ret h) fun E σ H ⟨g, env, s, r, q⟩ => tG_of r q fun d s' g' v H' r' dn q => q g' v H' r'.stp r'.toSR dn
theorem ds_retN : DS T X W B (.Return none pos) mRetN := ps_imp ps_retN fun E σ H ⟨g, env, s, r, q⟩ => q g .non H r.stp r.toSR .non
theorem ds_set {i : Nat} {x : Str} {pos' : Pos} {rp : Bool} (A : At T X W rp) (hi : X.N[i]? = some x) (hx : Loc X.env.scope x) (h : DE T X W e m) (hs : swapsWith e (some (.Name x pos')) pos.line X.env = pure false := by rfl)
    (hf : X.fn x = true ∨ X.env.scope.names.lookup x = some .local := by first | exact .inl rfl | exact .inr rfl) : DS T X W B (.Assign [.Name x pos'] e pos) (mSet i m) :=
  ps_imp (ps_set A.nd hi hx h hs hf) fun E σ H ⟨g, env, s, r, q⟩ => tG_of r q fun d s' g' v H' r' dn q => q g' _ H' (r'.setFz i dn)
theorem ds_if {t u : List Stmt} {cnd : Expr} (hc : DT T X W cnd c) (ha : DSs T X W B t a) (hb : DSs T X W B u b) : DS T X W B (.If cnd t u pos) (mIfS c a b) :=
  ps_imp (ps_if hc ha hb) fun E σ H ⟨g, env, s, r, q⟩ => tT_of r q fun k s' g' H' r' q => by
    cases k with
    | true => exact ⟨g', env, s', r', q⟩
    | false => exact ⟨g', env, s', r', q⟩
end
/-! ### targets -/
def DG (T : Tb) (X : Cx) (tg : Expr) (is : List Nat) (asg : D → En → Option En) : Prop :=
  ∃ t, PG X tg t ∧ ∀ (g : Gh) (env : En) (s : S) (σ : L2.St) (H : Hp) (v : V) (d : D) (env' : En) (Q : L2.St → Hp → Prop), Rel (ct T X) g env s σ H → DenG (ct T X) g v d → asg d env = some env' →
    (∀ σ', Rel (ct T X) g env' s σ' H → (∀ j a, OwAt env' σ' j a → OwAt env σ j a) → σ'.length = σ.length → (∀ j : Nat, j ∉ is → σ'[j]? = σ[j]?) → Q σ' H) → t v σ H Q
def DGs (T : Tb) (X : Cx) (tgs : List Expr) (is : List Nat) (asg : List D → En → Option En) : Prop :=
  ∃ t, PGs X tgs t ∧ ∀ (g : Gh) (env : En) (s : S) (σ : L2.St) (H : Hp) (vs : List V) (ds : List D) (env' : En) (Q : L2.St → Hp → Prop), Rel (ct T X) g env s σ H → DenGL (ct T X) g vs ds → asg ds env = some env' →
    (∀ σ', Rel (ct T X) g env' s σ' H → (∀ j a, OwAt env' σ' j a → OwAt env σ j a) → σ'.length = σ.length → (∀ j : Nat, j ∉ is → σ'[j]? = σ[j]?) → Q σ' H) → t vs σ H Q
def gN (i : Nat) : D → En → Option En := fun d env => some (env.set i (.fz d))
def gsNil : List D → En → Option En := fun ds env => match ds with | [] => some env | _ => none
def gsCons (a : D → En → Option En) (r : List D → En → Option En) : List D → En → Option En := fun ds env => match ds with | d :: ds => (a d env).bind (r ds) | [] => none
def gT (r : List D → En → Option En) : D → En → Option En := fun d env => match d with | .tuple ds => r ds env | _ => none
section
variable {T : Tb} {X : Cx} {W : WX} {pos : Pos} {x : Str} {i : Nat} {tg : Expr} {tgs : List Expr} {is js : List Nat} {asg : D → En → Option En} {asgs : List D → En → Option En}
theorem dg_name (nd : X.N.Nodup) (hi : X.N[i]? = some x) (hx : Loc X.env.scope x) (hf : X.fn x = true ∨ X.env.scope.names.lookup x = some .local := by first | exact .inl rfl | exact .inr rfl) : DG T X (.Name x pos) [i] (gN i) := by
  refine ⟨_, pg_name nd hi hx hf, fun g env s σ H v d env' Q r dn e k => ?_⟩
  cases e
  obtain ⟨a, b⟩ := r.setFz i dn
  exact k _ a b (List.length_set) fun j hj => List.getElem?_set_ne (fun z => hj (by simp [z]))
theorem dgs_nil : DGs T X [] [] gsNil := by
  refine ⟨_, pgs_nil, fun g env s σ H vs ds env' Q r dn e k => ?_⟩
  cases dn with
  | nil =>
    cases e
    exact ⟨rfl, k σ r (fun _ _ h => h) rfl fun _ _ => rfl⟩
  | cons => cases e
theorem dgs_cons (h : DG T X tg is asg) (h' : DGs T X tgs js asgs) (hs : (assignEach (tg :: tgs) X.env).map (·.2) = assign tg X.env :: (assignEach tgs X.env).map (·.2) := by rfl) : DGs T X (tg :: tgs) (is ++ js) (gsCons asg asgs) := by
  obtain ⟨t, p, q⟩ := h
  obtain ⟨u, p', q'⟩ := h'
  refine ⟨_, pgs_cons p p' hs, fun g env s σ H vs ds env' Q r dn e k => ?_⟩
  cases dn with
  | nil => cases e
  | cons d1 dr =>
    rename_i v vs d ds
    have e : (asg d env).bind (asgs ds) = some env' := e
    cases e1 : asg d env with
    | none => rw [e1] at e; cases e
    | some env1 =>
      rw [e1] at e
      refine ⟨v, vs, rfl, q g env s σ H v d env1 _ r d1 e1 fun σ1 r1 o1 l1 f1 => ?_⟩
      exact q' g env1 s σ1 H vs ds env' Q r1 dr e fun σ2 r2 o2 l2 f2 => k σ2 r2 (fun j a h => o1 j a (o2 j a h)) (l2.trans l1) fun j hj => by
        rw [List.mem_append, not_or] at hj
        rw [f2 j hj.2, f1 j hj.1]
theorem dg_tup {k n : Nat} (hc : X.calm = true) (h : DGs T X tgs is asgs) (hl : ∀ ds env env', asgs ds env = some env' → ds.length = n)
    (hn : (assignEach tgs X.env).length = n := by rfl) (hst : (assignEach tgs X.env).findIdx? (·.1) = none := by rfl) : DG T X (.Tuple tgs k pos) is (gT asgs) := by
  obtain ⟨t, p, q⟩ := h
  refine ⟨_, pg_tup hc p hn hst, fun g env s σ H v d env' Q r dn e k => ?_⟩
  cases d with
  | tuple ds =>
    cases dn with
    | tup ht l =>
      have el := hl ds env env' e
      exact ⟨_, _, rfl, r.sub.sqT ht, by rw [l.length]; exact el, q g env s σ H _ ds env' Q r l e k⟩
  | _ => cases e
end
end Dn

set_option Elab.async false
set_option linter.all false
set_option maxRecDepth 100000
set_option maxHeartbeats 4000000
namespace Dn
open PySem PySem.Spec PyProof.Rows L2
section
variable {C : Ct} {g g' : Gh} {s s' : S} {H H' : Hp} {a : Addr} {o : HO} {vs : List V} {env : En} {σ : L2.St}
theorem SR.am_some (q : SR C g s H) (h : a ∈ g.am) : ∃ vs, H a = some (.lst vs) ∧ g.F a = none := by
  obtain ⟨n, hn, e⟩ := List.getElem_of_mem h
  have hs : n < s.length := by rw [← q.len]; exact hn
  obtain ⟨a', vs, h1, h2, h3, _⟩ := q.st n s[n] (List.getElem?_eq_getElem hs)
  rw [List.getElem?_eq_getElem hn, e] at h1
  cases h1
  exact ⟨vs, h2, h3⟩
theorem SR.noam (q : SR C g s H) (h : H a = none) : a ∉ g.am := fun m => by
  obtain ⟨vs, e, _⟩ := q.am_some m
  rw [h] at e; cases e
theorem tabs_upd {T : List (Addr × Str)} (h : H a = some (.lst vs)) (t : LamX.Tabs T H) : LamX.Tabs T (upd H a o) := fun p hp => by
  obtain ⟨ps, h1, h2, h3⟩ := t p hp
  refine ⟨ps, by rw [upd_ne (ne_of h1 h (fun z => by cases z))]; exact h1, h2, fun pos cv hc => ?_⟩
  obtain ⟨c, e1, e2⟩ := h3 pos cv hc
  refine ⟨c, e1, by rw [upd_ne (ne_of e2 h (fun z => by unfold LamX.CodeO at z; cases z))]; exact e2⟩
theorem vac_upd {b : Addr} (no : ∀ ps, o ≠ .tbl ps) (z : Vac (upd H a o) b) : Vac H b := by
  refine vac_back (fun u e n => ?_) z
  by_cases k : b = a
  · exact ⟨o, by rw [k]; exact upd_same, no⟩
  · exact ⟨u, by rw [upd_ne k]; exact e, n⟩
theorem sr_upd (q : SR C g s H) (h : H a = some (.lst vs)) (n : g.F a = none) (m : a ∉ g.am) (no : ∀ ps, o ≠ .tbl ps := by intro ps z; cases z) : SR C g s (upd H a o) where
  sub := fun b u e => by
    have : b ≠ a := fun z => by rw [z, n] at e; cases e
    rw [upd_ne this]; exact q.sub _ _ e
  len := q.len
  nd := q.nd
  st := fun k ds e => by
    obtain ⟨a', ws, h1, h2, h3, h4⟩ := q.st k ds e
    have : a' ≠ a := fun z => m (by rw [← z]; exact List.mem_of_getElem? h1)
    exact ⟨a', ws, h1, by rw [upd_ne this]; exact h2, h3, h4⟩
  tab := tabs_upd h q.tab
  ndo := fun b k z => q.ndo b k (vac_upd no z)
  nt := q.nt
theorem step_upd {H1 : Hp} (t : Step g H g' H1) (h : Vac H a) (no : ∀ ps, o ≠ .tbl ps := by intro ps z; cases z) : Step g H g' (upd H1 a o) where
  F := t.F
  am := t.am
  Fn := t.Fn
  an := t.an
  kp := fun b u e n k => by rw [upd_ne (h.ne e k)]; exact t.kp b u e n k
  dm := fun b e => t.dm b (vac_upd no e)
  nd := t.nd
theorem sub_freeze (n : g.F a = none) : Sub g.F (upd g.F a o) := fun b u e => by
  rw [upd_ne (ne_new n e)]; exact e
theorem sr_freeze (q : SR C g s H) (h : H a = some o) (n : g.F a = none) (m : a ∉ g.am) (no : ∀ ps, o ≠ .tbl ps := by intro ps z; cases z) : SR C ⟨upd g.F a o, g.am, g.nd⟩ s H where
  sub := fun b u e => by
    have e : upd g.F a o b = some u := e
    by_cases z : b = a
    · rw [z, upd_same] at e; cases e; rw [z]; exact h
    · rw [upd_ne z] at e; exact q.sub _ _ e
  len := q.len
  nd := q.nd
  st := fun k ds e => by
    obtain ⟨a', ws, h1, h2, h3, h4⟩ := q.st k ds e
    have : a' ≠ a := fun z => m (by rw [← z]; exact List.mem_of_getElem? h1)
    exact ⟨a', ws, h1, h2, by show upd g.F a o a' = none; rw [upd_ne this]; exact h3, h4.mono (sub_freeze n) (.refl _)⟩
  tab := q.tab
  ndo := q.ndo
  nt := fun b ps e => by
    have e : upd g.F a o b = some (.tbl ps) := e
    by_cases k : b = a
    · rw [k, upd_same] at e; exact no ps (Option.some.inj e)
    · rw [upd_ne k] at e; exact q.nt _ _ e
theorem step_freeze {H1 : Hp} (t : Step g H g' H1) (h : Vac H a) (n : g'.F a = none) : Step g H ⟨upd g'.F a o, g'.am, g'.nd⟩ H1 where
  F := t.F.trans (sub_freeze n)
  am := t.am
  Fn := fun b u e => by
    have e : upd g'.F a o b = some u := e
    by_cases z : b = a
    · rw [z]; exact .inr h
    · rw [upd_ne z] at e; exact t.Fn b u e
  an := t.an
  kp := t.kp
  dm := t.dm
  nd := t.nd
/-! ### the block of a comprehension -/
def wipeE (env : En) : List Nat → En
  | [] => env
  | v :: vs => (wipeE env vs).set v .un
theorem Rel.wipe (r : Rel C g env s σ H) : ∀ vs : List Nat, Rel C g (wipeE env vs) s (L2.wipe σ vs) H
  | [] => r
  | v :: vs => ((Rel.wipe r vs).setUn v none).1
theorem wipe_get (σ : L2.St) : ∀ (vs : List Nat) (j : Nat), (L2.wipe σ vs)[j]? = if j ∈ vs then (if j < σ.length then some none else none) else σ[j]?
  | [], j => by simp [L2.wipe]
  | v :: vs, j => by
    have ih := wipe_get σ vs j
    unfold L2.wipe
    by_cases e : v = j
    · subst e
      by_cases hl : v < σ.length
      · rw [List.getElem?_set_self (by rw [wipe_length]; exact hl)]; simp [hl]
      · rw [List.getElem?_eq_none (by rw [List.length_set, wipe_length]; omega)]; simp [hl]
    · rw [List.getElem?_set_ne e, ih]
      have : (j ∈ v :: vs) ↔ j ∈ vs := by simp [List.mem_cons, Ne.symm e]
      simp only [this]
theorem wipe_same {σ σ' : L2.St} {vs is : List Nat} (hl : σ'.length = (L2.wipe σ vs).length) (hf : ∀ j : Nat, j ∉ is → σ'[j]? = (L2.wipe σ vs)[j]?) (hs : ∀ i ∈ is, i ∈ vs) : L2.wipe σ' vs = L2.wipe σ vs := by
  refine List.ext_getElem? fun j => ?_
  rw [wipe_length] at hl
  rw [wipe_get, wipe_get]
  by_cases h : j ∈ vs
  · rw [if_pos h, if_pos h, hl]
  · rw [if_neg h, if_neg h, hf j (fun z => h (hs j z)), wipe_get, if_neg h]
end
/-! ### what is walked -/
def ItS (C : Ct) (g : Gh) (H : Hp) (J : It) (ds : List D) : Prop := ∀ (i : Nat) (g1 : Gh) (H1 : Hp) (s1 : S), Step g H g1 H1 → SR C g1 s1 H1 →
  (i < ds.length → J.go i H1) ∧ (ds.length ≤ i → J.stop i H1) ∧ ∀ (x : V) (H2 : Hp) (d : D), ds[i]? = some d → J.yld i H1 x H2 → ∃ g2, Step g1 H1 g2 H2 ∧ SR C g2 s1 H2 ∧ DenG C g2 x d
def ItF (C : Ct) (g : Gh) (_ : Hp) (J : It) (ds : List D) : Prop := ∀ (i : Nat) (g1 : Gh) (H1 : Hp) (s1 : S), Sub g.F g1.F → Pre g.am g1.am → SR C g1 s1 H1 →
  (i < ds.length → J.go i H1) ∧ (ds.length ≤ i → J.stop i H1) ∧ ∀ (x : V) (H2 : Hp) (d : D), ds[i]? = some d → J.yld i H1 x H2 → ∃ g2, Step g1 H1 g2 H2 ∧ SR C g2 s1 H2 ∧ DenG C g2 x d
theorem ItF.toS {C : Ct} {g : Gh} {H : Hp} {J : It} {ds : List D} (h : ItF C g H J ds) : ItS C g H J ds := fun i g1 H1 s1 t sr => h i g1 H1 s1 t.F t.am sr
abbrev IK := Ct → Gh → Hp → It → List D → Prop
def tI (C : Ct) (W : WX) (K : IK) (m : M (List D)) : TI := fun σ H R => ∃ g env s, Rel C g env s σ H ∧ (m env s).sat (fun ds s' => ∀ g' J H', Step g H g' H' → SR C g' s' H' → K C g' H' J ds → R J H') (PX C W σ g H)
/-- iter, walked by the target tg, gives the items that m tells; the walk leans on frozen things alone (DI), or on all that stood (DJ) -/
abbrev DI (T : Tb) (X : Cx) (W : WX) (tg iter : Expr) (m : M (List D)) : Prop := PI X tg iter (tI (ct T X) W ItF m)
abbrev DJ (T : Tb) (X : Cx) (W : WX) (tg iter : Expr) (m : M (List D)) : Prop := PI X tg iter (tI (ct T X) W ItS m)
theorem pi_imp {X : Cx} {tg e : Expr} {t t' : TI} (h : PI X tg e t) (f : ∀ σ H R, t' σ H R → t σ H R) : PI X tg e t' := ⟨fun pins s σ H R I q => h.run pins s σ H R I (f σ H R q)⟩
theorem DI.toJ {T : Tb} {X : Cx} {W : WX} {tg iter : Expr} {m : M (List D)} (h : DI T X W tg iter m) : DJ T X W tg iter m :=
  pi_imp h fun σ H Rk ⟨g, env, s, r, q⟩ => ⟨g, env, s, r, R.sat_mono q (fun ds s' q g' J H' t sr it => q g' J H' t sr it.toS) fun _ _ q => q⟩

/-! ### for -/
def forLoop (asg : D → En → Option En) (body : Ms) : List D → Ms
  | [], env, s => .nx env s
  | d :: ds, env, s => match asg d env with
    | none => .bad
    | some env1 => match body env1 s with
      | .nx env2 s2 => forLoop asg body ds env2 s2
      | .ct env2 s2 => forLoop asg body ds env2 s2
      | .bk env2 s2 => .nx env2 s2
      | .rt d s2 => .rt d s2
      | .exc x env2 s2 => .exc x env2 s2
      | .bad => .bad
abbrev mFor (src : M (List D)) (asg : D → En → Option En) (body : Ms) : Ms := mOf src fun ds env s => forLoop asg body ds env s
section
variable {T : Tb} {X : Cx} {W : WX} {B : Bs} {tg iter : Expr} {body : List Stmt} {pos : Pos} {src : M (List D)} {is : List Nat} {asg : D → En → Option En} {b : Ms}
theorem drop_cons {α : Type} {l : List α} {i : Nat} (h : i < l.length) : l.drop i = l[i] :: l.drop (i + 1) := (List.drop_eq_getElem_cons h)
theorem ds_for (hp : PassesOwn (model X.prog X.w) X.A X.env X.xe) (hc : X.calm = true) (hi : DI T X W tg iter src) (hg : DG T X tg is asg) (hb : ∀ gb : Gh, DSs T X W { B with gb := gb } body b)
    (hs : ∀ x, foldedSetIterable iter X.env x = pure x := by intro _; rfl) : DS T X W B (.For tg iter body [] pos) (mFor src asg b) := by
  obtain ⟨gt, pg, qg⟩ := hg
  have hbody : PSs X body (fun E σ H => ∃ gb, tS (ct T X) W { B with gb := gb } b E σ H) := ⟨fun pins s σ H E I ⟨gb, q⟩ => (hb gb).run pins s σ H E I q⟩
  refine ps_imp (ps_for hp hc hi pg hbody hs) fun E σ H ⟨g, env, s, r, h⟩ => ?_
  refine ⟨g, env, s, r.toRel, ?_⟩
  unfold mFor mOf at h
  cases e : src env s with
  | bad => rw [e] at h; exact h.elim
  | exc x s' =>
    rw [e] at h
    exact fun g' c dx H' t sr xr => h g' c dx σ H' (r.step t sr) xr
  | ok ds s1 =>
    rw [e] at h
    intro g1 J H1 t1 sr1 it
    refine ⟨fun i m σ' H' => m = ds.length - i ∧ i ≤ ds.length ∧ ∃ g2 env2 s2, Sub g1.F g2.F ∧ Pre g1.am g2.am ∧ RelS (ct T X) B g2 env2 s2 σ' H' ∧ post (ct T X) W B E (forLoop asg b (ds.drop i) env2 s2),
      ⟨ds.length, by omega, Nat.zero_le _, g1, env, s1, .refl _, .refl _, r.step t1 sr1, h⟩, ?_⟩
    rintro i m σ' H' ⟨rfl, hi, g2, env2, s2, fs, fp, r2, h2⟩
    obtain ⟨go, stop, yl⟩ := it i g2 H' s2 fs fp r2.toSR
    by_cases lt : i < ds.length
    · refine .inr ⟨go lt, fun σ3 H3 => ∃ g3 env3 s3, Sub g1.F g3.F ∧ Pre g1.am g3.am ∧ RelS (ct T X) B g3 env3 s3 σ3 H3 ∧ post (ct T X) W B E (forLoop asg b (ds.drop (i + 1)) env3 s3), fun σ3 H3 ⟨g3, env3, s3, a1, a2, a3, a4⟩ => ⟨ds.length - (i + 1), by omega, rfl, by omega, g3, env3, s3, a1, a2, a3, a4⟩, fun x H3 hy => ?_⟩
      obtain ⟨g3, t3, sr3, dn3⟩ := yl x H3 ds[i] (List.getElem?_eq_getElem lt) hy
      have r3 := r2.step t3 sr3
      rw [drop_cons lt] at h2
      unfold forLoop at h2
      cases ea : asg ds[i] env2 with
      | none => rw [ea] at h2; exact h2.elim
      | some env3 =>
        rw [ea] at h2
        refine qg g3 env2 s2 σ' H3 x ds[i] env3 _ r3.toRel dn3 ea fun σ4 r4 ow4 _ _ => ?_
        have r4s : RelS (ct T X) { B with gb := g3 } g3 env3 s2 σ4 H3 := { r4 with stp := r3.stp, nw := fun j a z => r3.nw j a (ow4 j a z), fb := .refl _, fa := .refl _ }
        refine ⟨g3, g3, env3, s2, r4s, ?_⟩
        have up : ∀ {g5 : Gh} {env5 : En} {s5 : S} {σ5 : L2.St} {H5 : Hp}, RelS (ct T X) { B with gb := g3 } g5 env5 s5 σ5 H5 → RelS (ct T X) B g5 env5 s5 σ5 H5 := fun r5 =>
          { r5.toRel with stp := r5.stp, nw := r5.nw, fb := (r3.fb.trans r5.fb), fa := (r3.fa.trans r5.fa) }
        have fs3 := fs.trans t3.F
        have fp3 := fp.trans t3.am
        dsimp only at h2
        generalize b env3 s2 = r' at h2
        cases r' with
        | nx env4 s4 => exact fun g5 σ5 H5 r5 => ⟨g5, env4, s4, fs3.trans r5.fb, fp3.trans r5.fa, up r5, h2⟩
        | ct env4 s4 => exact fun g5 σ5 H5 r5 => ⟨g5, env4, s4, fs3.trans r5.fb, fp3.trans r5.fa, up r5, h2⟩
        | bk env4 s4 => exact fun g5 σ5 H5 r5 => h2 g5 σ5 H5 (up r5)
        | rt d s4 => exact h2
        | exc x env4 s4 => exact fun g5 c dx σ5 H5 r5 => h2 g5 c dx σ5 H5 (up r5)
        | bad => exact h2
    · have e2 : i = ds.length := by omega
      subst e2
      rw [List.drop_length] at h2
      exact .inl ⟨stop (Nat.le_refl _), h2 g2 σ' H' r2⟩
/-! ### while -/
def whileLoop (c : M Bool) (b : Ms) : Nat → Ms
  | 0, _, _ => .bad
  | n + 1, env, s => match c env s with
    | .ok true s1 => match b env s1 with
      | .nx env2 s2 => whileLoop c b n env2 s2
      | .ct env2 s2 => whileLoop c b n env2 s2
      | .bk env2 s2 => .nx env2 s2
      | .rt d s2 => .rt d s2
      | .exc x env2 s2 => .exc x env2 s2
      | .bad => .bad
    | .ok false s1 => .nx env s1
    | .exc x s1 => .exc x env s1
    | .bad => .bad
def fuel : Nat := 100000000
abbrev mWhile (c : M Bool) (b : Ms) : Ms := whileLoop c b fuel
theorem ds_while {c : Expr} {mc : M Bool} (hp : PassesOwn (model X.prog X.w) X.A X.env X.xe) (hc : DT T X W c mc) (hb : DSs T X W B body b) : DS T X W B (.While c body [] pos) (mWhile mc b) := by
  refine ps_imp (ps_while hp hc hb) fun E σ H ⟨g, env, s, r, h⟩ => ?_
  refine ⟨fun m σ' H' => ∃ g2 env2 s2, RelS (ct T X) B g2 env2 s2 σ' H' ∧ post (ct T X) W B E (whileLoop mc b m env2 s2), ⟨fuel, g, env, s, r, h⟩, ?_⟩
  rintro m σ' H' ⟨g2, env2, s2, r2, h2⟩
  cases m with
  | zero => exact h2.elim
  | succ n =>
    unfold whileLoop at h2
    refine ⟨g2, env2, s2, r2.toRel, ?_⟩
    cases e : mc env2 s2 with
    | bad => rw [e] at h2; exact h2.elim
    | exc x s' =>
      rw [e] at h2
      exact fun g' c dx H' t sr xr => h2 g' c dx σ' H' (r2.step t sr) xr
    | ok k s3 =>
      rw [e] at h2
      intro g3 H3 t3 sr3
      have r3 := r2.step t3 sr3
      cases k with
      | false => exact h2 g3 σ' H3 r3
      | true =>
        refine ⟨fun σ4 H4 => ∃ g4 env4 s4, RelS (ct T X) B g4 env4 s4 σ4 H4 ∧ post (ct T X) W B E (whileLoop mc b n env4 s4), fun σ4 H4 q => ⟨n, Nat.lt_succ_self n, q⟩, g3, env2, s3, r3, ?_⟩
        dsimp only at h2
        generalize b env2 s3 = r' at h2
        cases r' with
        | nx env4 s4 => exact fun g5 σ5 H5 r5 => ⟨g5, env4, s4, r5, h2⟩
        | ct env4 s4 => exact fun g5 σ5 H5 r5 => ⟨g5, env4, s4, r5, h2⟩
        | bk env4 s4 => exact h2
        | rt d s4 => exact h2
        | exc x env4 s4 => exact h2
        | bad => exact h2
end
end Dn

set_option Elab.async false
set_option linter.all false
set_option maxRecDepth 100000
set_option maxHeartbeats 4000000
namespace Dn
open PySem PySem.Spec PyProof.Rows L2
/-! ### new lists: frozen ones, or ones of one's own -/
abbrev rFz (C : Ct) : RR (List D) := fun g _ v ds => DenG C g v (.list ds)
abbrev rOw (C : Ct) : RR (List D) := fun g H v ds => ∃ a vs, v = .ref a ∧ H a = some (.lst vs) ∧ g.F a = none ∧ a ∉ g.am ∧ ¬ g.nd a ∧ DenGL C g vs ds
structure NewL (C : Ct) (Rr : RR (List D)) : Prop where
  fin : ∀ (g0 : Gh) (Hs : Hp) (g : Gh) (s : S) (H : Hp) (a : Addr) (vs : List V) (ds : List D) (Q : VK), Gv C Rr g0 Hs Q ds s → Step g0 Hs g H → SR C g s H → H a = some (.lst vs) → g.F a = none → a ∉ g.am → Vac Hs a → ¬ g.nd a → DenGL C g vs ds → Q (.ref a) H
theorem newL_fz {C : Ct} : NewL C (rFz C) := ⟨fun g0 Hs g s H a vs ds Q h t sr e f m n _ l => h _ _ _ (step_freeze t n f) (sr_freeze sr e f m) (.lst upd_same (l.mono (sub_freeze f) (.refl _)))⟩
theorem newL_ow {C : Ct} : NewL C (rOw C) := ⟨fun g0 Hs g s H a vs ds Q h t sr e f m n nn l => h g _ H t sr ⟨a, vs, rfl, e, f, m, nn, l⟩⟩
theorem NewL.new {C : Ct} {Rr : RR (List D)} (N : NewL C Rr) {g : Gh} {s : S} {H : Hp} {p : Addr} {vs : List V} {ds : List D} {Q : VK} (h : Gv C Rr g H Q ds s) (sr : SR C g s H) (l : DenGL C g vs ds) (np : H p = none) : Q (.ref p) (upd H p (.lst vs)) :=
  N.fin g H g s _ p vs ds Q h (step_own np) (sr_own sr np) upd_same (sr.offF np) (sr.noam np) (vac_none np) (fun z => sr.ndo p z (vac_none np)) l
abbrev DL (T : Tb) (X : Cx) (W : WX) (Rr : RR (List D)) (e : Expr) (m : M (List D)) : Prop := PE X e (tG (ct T X) W Rr m)
def mL (m : M (List D)) : M D := fun env s => (m env s).bind fun ds s' => .ok (.list ds) s'
theorem de_ofL {T : Tb} {X : Cx} {W : WX} {e : Expr} {m : M (List D)} (h : DL T X W (rFz (ct T X)) e m) : DE T X W e (mL m) := by
  refine pe_imp h fun σ H Q q => ?_
  obtain ⟨g, env, s, r, h⟩ := q
  exact ⟨g, env, s, r, R.sat_mono (R.sat_bind h) (fun ds s' q g' v H' t sr dn => q g' v H' t sr dn) fun _ _ q => q⟩
def mLst (m : M (List D)) : M (List D) := fun env s => (m env s).bind fun ds s' => if ds.length ≤ sizeLine then .ok ds s' else .bad
theorem dl_lst {T : Tb} {X : Cx} {W : WX} {Rr : RR (List D)} {es : List Expr} {ms : List Bool} {mr : M (List D)} {pos : Pos} (N : NewL (ct T X) Rr) (h : DA T X W es ms mr) (hms : ms.all (!·) = true := by rfl) : DL T X W Rr (.List es pos) (mLst mr) :=
  pe_imp (pe_lst h) fun σ H Q q => by
    obtain ⟨g, env, s, r, h⟩ := q
    refine ⟨g, env, s, r, R.sat_mono (R.sat_bind h) (fun ds s1 q g1 vs H1 t sr dn => ?_) fun _ _ q => q⟩
    have l := dn.den hms
    by_cases z : ds.length ≤ sizeLine
    · rw [if_pos z] at q
      exact ⟨by rw [l.length]; exact z, fun p np => N.new (Gv.step t q) sr l np⟩
    · rw [if_neg z] at q; exact q.elim
def W0 : WX := fun _ _ _ _ => False
def mTrue : M Bool := fun _ s => .ok true s
abbrev DTs (T : Tb) (X : Cx) (W : WX) (ifs : List Expr) (m : M Bool) : Prop := PTs X ifs (tT (ct T X) W m)
theorem pts_imp {X : Cx} {e : List Expr} {t t' : TT} (h : PTs X e t) (f : ∀ σ H Q, t' σ H Q → t σ H Q) : PTs X e t' := ⟨fun pins s σ H Q I q => h.run pins s σ H Q I (f σ H Q q)⟩
theorem dts_nil {T : Tb} {X : Cx} {W : WX} : DTs T X W [] mTrue := pts_imp pts_nil fun σ H Q q => tT_pure q
theorem dts_one {T : Tb} {X : Cx} {W : WX} {e : Expr} {m : M Bool} (h : DT T X W e m) : DTs T X W [e] m := pts_one h
def compLoop (asg : D → En → Option En) (test : M Bool) (elt : M D) : List D → List D → En → S → R (List D)
  | [], acc, _, s => .ok acc s
  | d :: ds, acc, env, s => match asg d env with
    | none => .bad
    | some env1 => match test env1 s with
      | .ok true s1 => match elt env1 s1 with
        | .ok v s2 => compLoop asg test elt ds (acc ++ [v]) env s2
        | _ => .bad
      | .ok false s1 => compLoop asg test elt ds acc env s1
      | _ => .bad
def mComp (src : M (List D)) (vs : List Nat) (asg : D → En → Option En) (test : M Bool) (elt : M D) : M (List D) := fun env s =>
  (src env s).bind fun ds s1 => if ds.length ≤ sizeLine then (match compLoop asg test elt ds [] (wipeE env vs) s1 with | .ok acc s2 => .ok acc s2 | _ => .bad) else .bad
/-- the blocks of a comprehension -/
abbrev Blk (X : Cx) (scope : Scope) (P : Cx → Prop) : Prop := ∀ (s : Shared) (H : Hp) (C : Addr) (cl : List (Str × Addr)) (fp : List Addr), P (X.blk s H scope (compEnvC scope cl C X.env) fp)
section
variable {T : Tb} {X : Cx} {W : WX} {tg iter elt : Expr} {ifs : List Expr} {scope : Scope} {own : List (Str × Nat)} {pos : Pos} {src : M (List D)} {asg : D → En → Option En} {mt : M Bool} {me : M D}
/-- what a target says, by its reading alone -/
def GOk (T : Tb) (X : Cx) (t : TG) (is : List Nat) (asg : D → En → Option En) : Prop := ∀ (g : Gh) (env : En) (s : S) (σ : L2.St) (H : Hp) (v : V) (d : D) (env' : En) (Q : L2.St → Hp → Prop), Rel (ct T X) g env s σ H → DenG (ct T X) g v d → asg d env = some env' →
    (∀ σ', Rel (ct T X) g env' s σ' H → (∀ j a, OwAt env' σ' j a → OwAt env σ j a) → σ'.length = σ.length → (∀ j : Nat, j ∉ is → σ'[j]? = σ[j]?) → Q σ' H) → t v σ H Q
theorem lc_read {Rr : RR (List D)} (N : NewL (ct T X) Rr) {gt : TG} {is : List Nat} (K : IK) (hK : ∀ g H J ds, K (ct T X) g H J ds → ItS (ct T X) g H J ds) (hg : GOk T X gt is asg) (hv : ∀ i ∈ is, i ∈ own.map (·.2)) (σ : L2.St) (H : Hp) (Q : VK)
    (h : tG (ct T X) W Rr (mComp src (own.map (·.2)) asg mt me) σ H Q) : tLc (tI (ct T X) W K src) gt (tT (ct T X) W0 mt) (tD (ct T X) W0 me) (own.map (·.2)) σ H Q := by
  obtain ⟨g, env, s, r, h⟩ := h
  refine ⟨g, env, s, r, R.sat_mono (R.sat_bind h) (fun ds s1 q g1 J H1 t1 sr1 it Dd nD => ?_) fun _ _ q => q⟩
  by_cases z : ds.length ≤ sizeLine
  case neg => rw [if_neg z] at q; exact q.elim
  rw [if_pos z] at q
  generalize hc : compLoop asg mt me ds [] (wipeE env (own.map (·.2))) s1 = rr at q
  cases rr with
  | exc x s2 => exact q.elim
  | bad => exact q.elim
  | ok acc s2 =>
    have it := hK _ _ _ _ it
    refine ⟨fun i m H' => m = ds.length - i ∧ i ≤ ds.length ∧ ∃ g2 s2' vacc dacc, Step g1 H1 g2 H' ∧ SR (ct T X) g2 s2' H' ∧ H' Dd = some (.lst vacc) ∧ g2.F Dd = none ∧ Dd ∉ g2.am ∧ DenGL (ct T X) g2 vacc dacc ∧ dacc.length ≤ i ∧
        compLoop asg mt me (ds.drop i) dacc (wipeE env (own.map (·.2))) s2' = .ok acc s2, ⟨ds.length, by omega, Nat.zero_le _, g1, s1, [], [], step_own nD, sr_own sr1 nD, upd_same, sr1.offF nD, sr1.noam nD, .nil, Nat.le_refl _, hc⟩, ?_⟩
    rintro i m H' ⟨rfl, hi, g2, s2', vacc, dacc, t2, sr2, hD, fD, aD, lD, le, eq⟩
    obtain ⟨go, stop, yl⟩ := it i g2 H' s2' t2 sr2
    by_cases lt : i < ds.length
    · refine .inr ⟨go lt, fun H4 => ∃ g4 s4 vacc dacc, Step g1 H1 g4 H4 ∧ SR (ct T X) g4 s4 H4 ∧ H4 Dd = some (.lst vacc) ∧ g4.F Dd = none ∧ Dd ∉ g4.am ∧ DenGL (ct T X) g4 vacc dacc ∧ dacc.length ≤ i + 1 ∧
        compLoop asg mt me (ds.drop (i + 1)) dacc (wipeE env (own.map (·.2))) s4 = .ok acc s2, fun H4 p => ⟨ds.length - (i + 1), by omega, rfl, by omega, p⟩, fun x H3 hy => ?_⟩
      obtain ⟨g3, t3, sr3, dn3⟩ := yl x H3 ds[i] (List.getElem?_eq_getElem lt) hy
      rw [drop_cons lt] at eq
      unfold compLoop at eq
      cases ea : asg ds[i] (wipeE env (own.map (·.2))) with
      | none => rw [ea] at eq; cases eq
      | some env1 =>
        rw [ea] at eq
        have r3 := (r.step ((t1.trans t2).trans t3) sr3).wipe (own.map (·.2))
        refine hg g3 _ s2' _ H3 x ds[i] env1 _ r3 dn3 ea fun σ4 r4 _ ll fr => ?_
        refine ⟨wipe_same ll fr hv, g3, env1, s2', r4, ?_⟩
        dsimp only at eq
        cases et : mt env1 s2' with
        | exc y s3 => rw [et] at eq; cases eq
        | bad => rw [et] at eq; cases eq
        | ok k s3 =>
          rw [et] at eq
          intro g5 H5 t5 sr5
          cases k with
          | false =>
            have tt := (t3.trans t5)
            exact ⟨g5, s3, vacc, dacc, t2.trans tt, sr5, tt.kp _ _ hD aD lst_tbl, tt.off hD fD, tt.noam hD aD, tt.denL lD, Nat.le_succ_of_le le, eq⟩
          | true =>
            refine ⟨g5, env1, s3, r4.step t5 sr5, ?_⟩
            dsimp only at eq
            cases ee : me env1 s3 with
            | exc y s4 => rw [ee] at eq; cases eq
            | bad => rw [ee] at eq; cases eq
            | ok v s4 =>
              rw [ee] at eq
              intro g6 y H6 t6 sr6 dn6
              have tt := (t3.trans t5).trans t6
              have hD6 := tt.kp _ _ hD aD lst_tbl
              have f6 := tt.off hD fD
              have a6 := tt.noam hD aD
              have l6 := tt.denL lD
              refine ⟨vacc, hD6, ?_, g6, s4, vacc ++ [y], dacc ++ [v], step_upd (t2.trans tt) (vac_none nD), sr_upd sr6 hD6 f6 a6, upd_same, f6, a6, l6.append (.one dn6), by rw [List.length_append]; simpa using le, eq⟩
              rw [l6.length]
              omega
    · have e2 : i = ds.length := by omega
      subst e2
      rw [List.drop_length] at eq
      unfold compLoop at eq
      cases eq
      refine .inl ⟨stop (Nat.le_refl _), ?_⟩
      have nD0 : Vac H Dd := t1.dm _ (vac_none nD)
      have nnd : ¬ g2.nd Dd := fun z => by
        rw [(t1.trans t2).nd] at z
        exact r.ndo Dd z nD0
      exact N.fin g H g2 s2 H' Dd vacc acc Q q (t1.trans t2) sr2 hD fD aD nD0 nnd lD
theorem dl_lc {Rr : RR (List D)} (N : NewL (ct T X) Rr) {is : List Nat} {rp : Bool} (A : At T X W rp) (hc : X.calm = true) (hi : DJ T X W tg iter src) (ok : BlkOk X.N X.env.scope scope own) (hg : ∃ gt, GOk T X gt is asg ∧ Blk X scope fun Y => PG Y tg gt) (hv : ∀ i ∈ is, i ∈ own.map (·.2))
    (ht : Blk X scope fun Y => DTs T Y W0 ifs mt) (he : Blk X scope fun Y => DE T Y W0 elt me) (hs : ∀ x, foldedSetIterable iter X.env x = pure x := by intro _; rfl) :
    DL T X W Rr (.ListComp elt [⟨tg, iter, ifs, 0⟩] scope pos) (mComp src (own.map (·.2)) asg mt me) := by
  obtain ⟨gt, go, gb⟩ := hg
  exact pe_imp (pe_lc (wi := tI (ct T X) W ItS src) (tt := tT (ct T X) W0 mt) (te := tD (ct T X) W0 me) hc A.nd hi ok gb ht he hs) (lc_read N ItS (fun _ _ _ _ h => h) go hv)
/-- name = [..]: the new list frozen -/
theorem ds_setLc {B : Bs} {i : Nat} {y : Str} {py spos : Pos} {is : List Nat} {rp : Bool} (A : At T X W rp) (hc : X.calm = true) (hy : X.N[i]? = some y) (hyl : X.env.scope.names.lookup y = some .local)
    (hsw : swapsWith (.ListComp elt [⟨tg, iter, ifs, 0⟩] scope pos) (some (.Name y py)) spos.line X.env = pure true) (hi : DJ T X W tg iter src) (ok : BlkOk X.N X.env.scope scope own) (hg : ∃ gt, GOk T X gt is asg ∧ Blk X scope fun Y => PG Y tg gt) (hv : ∀ i ∈ is, i ∈ own.map (·.2))
    (ht : Blk X scope fun Y => DTs T Y W0 ifs mt) (he : Blk X scope fun Y => DE T Y W0 elt me) (hs : ∀ x, foldedSetIterable iter X.env x = pure x := by intro _; rfl) :
    DS T X W B (.Assign [.Name y py] (.ListComp elt [⟨tg, iter, ifs, 0⟩] scope pos) spos) (mSet i (mL (mComp src (own.map (·.2)) asg mt me))) := by
  obtain ⟨gt, go, gb⟩ := hg
  refine ps_imp (ps_setLc (wi := tI (ct T X) W ItS src) (tt := tT (ct T X) W0 mt) (te := tD (ct T X) W0 me) hc A.nd hy hyl hsw hi ok gb ht he hs) fun E σ H ⟨g, env, s, r, q⟩ => ?_
  refine lc_read (newL_fz (C := ct T X)) ItS (fun _ _ _ _ h => h) go hv σ H _ ?_
  obtain ⟨g1, env1, s1, r1, q1⟩ := tG_of (Rr := rD (ct T X)) (m := mL (mComp src (own.map (·.2)) asg mt me)) r q fun d s' g' v H' r' dn q => (q g' _ H' (r'.setFz i dn) : E.nx _ H')
  exact ⟨g1, env1, s1, r1, R.sat_mono (R.sat_bind q1) (fun ds s' q g' v H' t sr dn => q g' v H' t sr dn) fun _ _ q => q⟩
/-- a target, in all blocks -/
theorem gb_name {i : Nat} {x : Str} {p : Pos} (nd : X.N.Nodup) (hi : X.N[i]? = some x) (hx : Blk X scope fun Y => Loc Y.env.scope x ∧ (Y.fn x = true ∨ Y.env.scope.names.lookup x = some .local)) :
    ∃ gt, GOk T X gt [i] (gN i) ∧ Blk X scope fun Y => PG Y (.Name x p) gt := by
  refine ⟨gName i, fun g env s σ H v d env' Q r dn e k => ?_, fun s H C cl fp => pg_name (X := X.blk s H scope (compEnvC scope cl C X.env) fp) nd hi (hx s H C cl fp).1 (hx s H C cl fp).2⟩
  cases e
  obtain ⟨a, b⟩ := r.setFz i dn
  exact k _ a b (List.length_set) fun j hj => List.getElem?_set_ne (fun z => hj (by simp [z]))
def GsOk (T : Tb) (X : Cx) (t : TGs) (is : List Nat) (asg : List D → En → Option En) : Prop := ∀ (g : Gh) (env : En) (s : S) (σ : L2.St) (H : Hp) (vs : List V) (ds : List D) (env' : En) (Q : L2.St → Hp → Prop), Rel (ct T X) g env s σ H → DenGL (ct T X) g vs ds → asg ds env = some env' →
    (∀ σ', Rel (ct T X) g env' s σ' H → (∀ j a, OwAt env' σ' j a → OwAt env σ j a) → σ'.length = σ.length → (∀ j : Nat, j ∉ is → σ'[j]? = σ[j]?) → Q σ' H) → t vs σ H Q
theorem gbs_nil : ∃ gt, GsOk T X gt [] gsNil ∧ Blk X scope fun Y => PGs Y [] gt := by
  refine ⟨gNil, fun g env s σ H vs ds env' Q r dn e k => ?_, fun s H C cl fp => pgs_nil⟩
  cases dn with
  | nil =>
    cases e
    exact ⟨rfl, k σ r (fun _ _ h => h) rfl fun _ _ => rfl⟩
  | cons => cases e
theorem gbs_cons {t : Expr} {ts : List Expr} {is js : List Nat} {asg : D → En → Option En} {asgs : List D → En → Option En} (h : ∃ gt, GOk T X gt is asg ∧ Blk X scope fun Y => PG Y t gt) (h' : ∃ gt, GsOk T X gt js asgs ∧ Blk X scope fun Y => PGs Y ts gt)
    (hs : Blk X scope fun Y => (assignEach (t :: ts) Y.env).map (·.2) = assign t Y.env :: (assignEach ts Y.env).map (·.2) := by intro _ _ _ _ _; rfl) : ∃ gt, GsOk T X gt (is ++ js) (gsCons asg asgs) ∧ Blk X scope fun Y => PGs Y (t :: ts) gt := by
  obtain ⟨t1, q, p⟩ := h
  obtain ⟨u, q', p'⟩ := h'
  refine ⟨gCons t1 u, fun g env s σ H vs ds env' Q r dn e k => ?_, fun s H C cl fp => pgs_cons (p s H C cl fp) (p' s H C cl fp) (hs s H C cl fp)⟩
  cases dn with
  | nil => cases e
  | cons d1 dr =>
    rename_i v vs d ds
    have e : (asg d env).bind (asgs ds) = some env' := e
    cases e1 : asg d env with
    | none => rw [e1] at e; cases e
    | some env1 =>
      rw [e1] at e
      refine ⟨v, vs, rfl, q g env s σ H v d env1 _ r d1 e1 fun σ1 r1 o1 l1 f1 => ?_⟩
      exact q' g env1 s σ1 H vs ds env' Q r1 dr e fun σ2 r2 o2 l2 f2 => k σ2 r2 (fun j a h => o1 j a (o2 j a h)) (l2.trans l1) fun j hj => by
        rw [List.mem_append, not_or] at hj
        rw [f2 j hj.2, f1 j hj.1]
theorem gb_tup {ts : List Expr} {is : List Nat} {asgs : List D → En → Option En} {k n : Nat} {p : Pos} (hc : X.calm = true) (h : ∃ gt, GsOk T X gt is asgs ∧ Blk X scope fun Y => PGs Y ts gt) (hl : ∀ ds env env', asgs ds env = some env' → ds.length = n)
    (hn : Blk X scope fun Y => (assignEach ts Y.env).length = n := by intro _ _ _ _ _; rfl) (hst : Blk X scope fun Y => (assignEach ts Y.env).findIdx? (·.1) = none := by intro _ _ _ _ _; rfl) : ∃ gt, GOk T X gt is (gT asgs) ∧ Blk X scope fun Y => PG Y (.Tuple ts k p) gt := by
  obtain ⟨t, q, pp⟩ := h
  refine ⟨gTup X.K n t, fun g env s σ H v d env' Q r dn e k => ?_, fun s H C cl fp => pg_tup (X := X.blk s H scope (compEnvC scope cl C X.env) fp) hc (pp s H C cl fp) (hn s H C cl fp) (hst s H C cl fp)⟩
  cases d with
  | tuple ds =>
    cases dn with
    | tup ht l =>
      have el := hl ds env env' e
      exact ⟨_, _, rfl, r.sub.sqT ht, by rw [l.length]; exact el, q g env s σ H _ ds env' Q r l e k⟩
  | _ => cases e
end
end Dn

set_option Elab.async false
set_option linter.all false
set_option maxRecDepth 100000
set_option maxHeartbeats 4000000
namespace Dn
open PySem PySem.Spec PyProof.Rows L2
/-- what a def is, over data -/
abbrev Mf := List D → S → R D
/-- as FnOk, where nothing is being shown (repr) around it -/
structure FnG (P : Program) (w : World) (K : PySem.W.Frag) (mg : Str → Option Value) (base : Heap) (rp : Bool) (k : Nat) (f : Addr) (fd : FuncData) (ps : List Str) (sp : Sp) : Prop where
  len : ∀ vs H Q E, sp vs H Q E → vs.length = ps.length
  run : ∀ (A : Around) (outer : List Env) (s : Shared) (H : Hp) (args : Args) (us : List Value) (vs : List V) (Q : VK) (E : XK), Room k A → (rp = true → A.guards = some []) → Env0 P w K mg base A outer s H → BindsTo s fd args (ps.zip us) → Vals vs us → sp vs H Q E →
    codeAny (model P w) A (.call (.ref f) args) (CR (L2.CX P w) outer P w H s Q E) s
theorem FnG.mono {P : Program} {w : World} {K : PySem.W.Frag} {mg : Str → Option Value} {base : Heap} {rp : Bool} {j k : Nat} {f : Addr} {fd : FuncData} {ps : List Str} {sp : Sp} (F : FnG P w K mg base rp j f fd ps sp) (h : j ≤ k) : FnG P w K mg base rp k f fd ps sp :=
  ⟨F.len, fun A outer s H args us vs Q E hr => F.run A outer s H args us vs Q E (hr.mono h)⟩
/-- the promise of mf; ms: which parameters may be lists of the caller's own -/
def spM (C : Ct) (ms : List Bool) (mf : Mf) : Sp := fun vs H Q E => ∃ g ds s, SR C g s H ∧ AOk C g H ms vs ds ∧ (mf ds s).sat (Gv C (rD C) g H Q) fun x s' => ∀ g' c dx H', Step g H g' H' → SR C g' s' H' → XR C g' H' x c dx → E c dx H'
def startE (ms : List Bool) (ds : List D) (n : Nat) : En := (List.zipWith (fun b d => match b, d with | true, .list xs => Sl.sh xs | _, d => Sl.fz d) ms ds) ++ List.replicate (n - ds.length) .un
def mkF (ms : List Bool) (n : Nat) (m : Ms) : Mf := fun ds s => match m (startE ms ds n) s with
  | .nx _ s' => .ok .none s'
  | .rt d s' => .ok d s'
  | .exc x _ s' => .exc x s'
  | _ => .bad
def WF (E : XK) : WX := fun c d _ H => E c d H
/-- a def's context -/
abbrev cxG (P : Program) (w : World) (K : PySem.W.Frag) (mg : Str → Option Value) (base : Heap) (N : List Str) (qual : Str) (scope : Scope) (f : Addr) (cd : Value) (A : Around) (outer : List Env) (s : Shared) (H : Hp) (E : XK) : Cx := cxOf (L2.CX P w) P w K mg base N qual scope f cd A outer s H E
section
variable {C : Ct} {g : Gh} {H : Hp}
theorem start_sl : ∀ {ms : List Bool} {vs : List V} {ds : List D}, AOk C g H ms vs ds → ∀ (r : L2.St) (i : Nat) (x : Sl), (List.zipWith (fun b d => match b, d with | true, .list xs => Sl.sh xs | _, d => Sl.fz d) ms ds)[i]? = some x → SlOk C g (vs.map some ++ r) H i x
  | _, _, _, .nil, _, i, x, h => by simp at h
  | _, _, _, .val (b := b) (d := d) (v := v) hd t, r, 0, x, h => by
    simp at h
    subst h
    cases b with
    | false => exact ⟨v, rfl, hd⟩
    | true =>
      cases hd with
      | lst q l => exact ⟨_, _, rfl, l, .inl q⟩
      | non => exact ⟨_, rfl, .non⟩
      | bl b => exact ⟨_, rfl, .bl b⟩
      | int i => exact ⟨_, rfl, .int i⟩
      | str i => exact ⟨_, rfl, .str i⟩
      | sc a b => exact ⟨_, rfl, .sc a b⟩
      | tup a b => exact ⟨_, rfl, .tup a b⟩
      | fn a => exact ⟨_, rfl, .fn a⟩
      | mu a => exact ⟨_, rfl, .mu a⟩
      | ed a => exact ⟨_, rfl, .ed a⟩
  | _, _, _, .shw a b c d t, r, 0, x, h => by
    simp at h
    subst h
    exact ⟨_, _, rfl, d, .inr ⟨a, b, c⟩⟩
  | _, _, _, .val (vs := vs) hd t, r, i + 1, x, h => by
    have h' := start_sl t r i x (by simpa using h)
    cases x with
    | un => trivial
    | rv => exact h'
    | fz d => exact h'
    | ow d => exact h'
    | sh d => exact h'
  | _, _, _, .shw a b c d t, r, i + 1, x, h => by
    have h' := start_sl t r i x (by simpa using h)
    cases x with
    | un => trivial
    | rv => exact h'
    | fz d => exact h'
    | ow d => exact h'
    | sh d => exact h'
theorem zip_ow : ∀ (ms : List Bool) (ds : List D) (i : Nat) (es : List D), (List.zipWith (fun b d => match b, d with | true, .list xs => Sl.sh xs | _, d => Sl.fz d) ms ds)[i]? ≠ some (.ow es)
  | [], _, i, es => by simp
  | _ :: _, [], i, es => by simp
  | b :: ms, d :: ds, 0, es => by
    simp only [List.zipWith_cons_cons, List.getElem?_cons_zero]
    split <;> simp
  | b :: ms, d :: ds, i + 1, es => by
    simp only [List.zipWith_cons_cons, List.getElem?_cons_succ]
    exact zip_ow ms ds i es
theorem startE_ow {ms : List Bool} {ds : List D} {n i : Nat} {es : List D} (h : (startE ms ds n)[i]? = some (.ow es)) : False := by
  unfold startE at h
  rw [List.getElem?_append] at h
  split at h
  · exact zip_ow _ _ _ _ h
  · rw [List.getElem?_replicate] at h
    split at h <;> cases h
theorem start_rel {s : S} {ms : List Bool} {vs : List V} {ds : List D} {N : List Str} (q : SR C g s H) (a : AOk C g H ms vs ds) (hn : ms.length ≤ N.length) : RelS C ⟨g, g, H⟩ g (startE ms ds N.length) s (L2.start N vs) H := by
  obtain ⟨l1, l2⟩ := a.length
  refine { q with slen := ?_, sl := fun i x h => ?_, ap := fun i j b h1 _ => ?_, stp := Step.refl g H, nw := fun i b h => ?_, fb := .refl _, fa := .refl _ }
  · unfold L2.start startE
    simp [l1, l2]
  · unfold startE at h
    rw [List.getElem?_append] at h
    split at h
    · exact start_sl a _ i x h
    · rw [List.getElem?_replicate] at h
      split at h
      · cases h; trivial
      · cases h
  · obtain ⟨⟨es, e⟩, _⟩ := h1
    exact (startE_ow e).elim
  · obtain ⟨⟨es, e⟩, _⟩ := h
    exact (startE_ow e).elim
end
section
variable {P : Program} {w : World} {K : PySem.W.Frag} {mg : Str → Option Value} {base : Heap} {T : Tb}
/-- THE RULE: a def by its body's derivation -/
theorem fnG_of {rp : Bool} {x qual : Str} {st : Stmt} {f : Addr} {fd : FuncData} {N ps : List Str} {k : Nat} {ms : List Bool} {m : Ms} (F : Fun K x qual st f fd) (Sc : FnScope N ps (defScope st)) (hms : ms.length = ps.length)
    (hb : ∀ (cdv : Value) (A : Around) (outer : List Env) (s : Shared) (H : Hp) (E : XK), Room k (A.deeper (envOfC qual (defScope st) s.heap.objs.size f cdv)) → At T (cxG P w K mg base N qual (defScope st) f cdv A outer s H E) (WF E) rp → ∀ B : Bs, DSs T (cxG P w K mg base N qual (defScope st) f cdv A outer s H E) (WF E) B (defBody st) m) :
    FnG P w K mg base rp (k + 1) f fd ps (spM ⟨K, mg, T.T, T.rv⟩ ms (mkF ms N.length m)) := by
  obtain ⟨oc, od, kV, doc, pm, an, cdv, ct, osl, rfl, lk, hcd⟩ := F.ex
  refine ⟨fun vs H Q E ⟨g, ds, s, _, a, _⟩ => by rw [← hms]; exact a.length.1, fun A outer s H args us vs Q E hr hg e0 hbi r hsp => ?_⟩
  obtain ⟨g, ds, s', sr, ao, h⟩ := hsp
  have hpl : ps.length ≤ N.length := by
    have := congrArg List.length Sc.pre
    rw [List.length_take] at this
    omega
  refine LamX.run_ofS lk hcd Sc hr e0 hbi r (by rw [← hms]; exact ao.length.1) fun hr' => ?_
  have A' : At T (cxG P w K mg base N qual (defScope st) f cdv A outer s H E) (WF E) rp := ⟨by have := hr'.un; show (A.deeper _).units + 150 < cLine; omega, hg, Sc.nd, takes_of rfl rfl rfl rfl⟩
  refine ⟨_, hb cdv A outer s H E hr' A' ⟨g, g, H⟩, g, _, s', start_rel sr ao (by rw [hms]; exact hpl), ?_⟩
  unfold mkF at h
  generalize m (startE ms ds N.length) s' = r' at h
  cases r' with
  | nx env s2 => exact fun g2 σ2 H2 r2 => h g2 .non H2 r2.stp r2.toSR .non
  | rt d s2 => exact fun g2 v H2 t sr2 dn => h g2 v H2 t sr2 dn
  | exc x env s2 => exact fun g2 c dx σ2 H2 r2 xr => h g2 c dx H2 r2.stp r2.toSR xr
  | bk env s2 => exact h.elim
  | ct env s2 => exact h.elim
  | bad => exact h.elim
end
/-! ### calls -/
def mCall (mf : Mf) (ma : M (List D)) : M D := fun env s => (ma env s).bind fun ds s1 => mf ds s1
section
variable {T : Tb} {X : Cx} {W : WX} {k : Nat} {rp' : Bool} {f : Addr} {fd : FuncData} {ps : List Str} {ms : List Bool} {mf : Mf} {x : Str} {p pos : Pos} {e : Expr} {es : List Expr} {ma : M (List D)}
theorem run_G {pins : List (Addr × Obj)} {σ : L2.St} {H : Hp} {s : Shared} {Q : VK} {us : List Value} {vs : List V} (F : FnG X.prog X.w X.K X.mg X.base rp' k f fd ps (spM (ct T X) ms mf)) (hr : Room k X.A) {rp : Bool} (A : At T X W rp) (hrp : rp' = true → rp = true) (hb : Binds X.K fd ps [])
    (I : Inv X pins σ H s) (r : Vals vs us) (h : spM (ct T X) ms mf vs H Q (WE W σ)) : wpAny (model X.prog X.w) X.A (call (.ref f) us) (EP X pins σ Q) X.xe s := by
  have hl : (us ++ []).length = ps.length := by rw [List.append_nil, ← r.length]; exact F.len _ _ _ _ h
  have b := hb s us I.kIn hl
  rw [List.append_nil] at b
  refine wpAny_call (codeAny_mono (F.run X.A X.stack s H ⟨us, []⟩ us vs Q (WE W σ) hr (fun z => A.gd (hrp z)) I.env0 b r h) fun rs s' hq => ?_)
  match rs, hq with
  | .error y, hq => exact passAt A.tk σ pins H s y s' I hq
  | .ok (.ret u), hq => exact I.after hq
theorem call_core {σ : L2.St} {H : Hp} {Q : VK} (h : tD (ct T X) W (mCall mf ma) σ H Q) : tA (ct T X) W ms ma σ H fun vs H1 => spM (ct T X) ms mf vs H1 Q (WE W σ) := by
  obtain ⟨g, env, s, r, h⟩ := h
  refine ⟨g, env, s, r, R.sat_mono (R.sat_bind h) (fun ds s1 q g1 vs H1 t sr ao => ?_) fun _ _ q => q⟩
  exact ⟨g1, ds, s1, sr, ao, R.sat_mono q (fun _ _ => Gv.step t) fun x s' q g' c dx H' t' sr' xr => q g' c dx H' (t.trans t') sr' xr⟩
theorem de_call (F : FnG X.prog X.w X.K X.mg X.base rp' k f fd ps (spM (ct T X) ms mf)) (hr : Room k X.A) {rp : Bool} (A : At T X W rp) (hrp : rp' = true → rp = true) (hg : Gl X x) (hm : X.mg x = some (.ref f)) (hk : PySem.W.keepIn X.K (.ref f) = true) (hb : Binds X.K fd ps [])
    (ha : DA T X W (e :: es) ms ma) (hdb : (x == ("__debug__" : Str)) = false := by decide) (he : starEach (e :: es) X.env = (false, eval e X.env) :: starEach es X.env := by rfl) (hpl : (backTo pos (starEach es X.env)).any (·.1) = false := by rfl) :
    DE T X W (.Call (.Name x p) (e :: es) [] pos) (mCall mf ma) := by
  refine ⟨fun pins s σ H Q I h => wpAny_Call_Name_kw (ld_glob I hg hm ?_ hdb)⟩
  refine PySem.W.callWith_K (h₀ := X.base) I.ok.mod.kin hk (thn (ha.run pos pins s σ H _ I (call_core h)) fun us s1 q => ?_) he hpl
  obtain ⟨vs, H1, I1, r1, q1⟩ := q
  exact ⟨I1.kIn, run_G F hr A hrp hb I1 r1 q1⟩
theorem de_call0 (F : FnG X.prog X.w X.K X.mg X.base rp' k f fd ps (spM (ct T X) [] mf)) (hr : Room k X.A) {rp : Bool} (A : At T X W rp) (hrp : rp' = true → rp = true) (hg : Gl X x) (hm : X.mg x = some (.ref f)) (hk : PySem.W.keepIn X.K (.ref f) = true) (hb : Binds X.K fd ps [])
    (hdb : (x == ("__debug__" : Str)) = false := by decide) : DE T X W (.Call (.Name x p) [] [] pos) (mCall mf mNil) := by
  refine ⟨fun pins s σ H Q I h => wpAny_Call_Name_kw (ld_glob I hg hm ?_ hdb)⟩
  obtain ⟨g, env, s', r, h⟩ := h
  exact PySem.W.callWith_K0 I.kIn hk (run_G (us := []) F hr A hrp hb I .nil ⟨g, [], s', r.toSR, .nil, h⟩)
end
end Dn

set_option Elab.async false
set_option linter.all false
set_option maxRecDepth 100000
set_option maxHeartbeats 4000000
namespace Dn
open PySem PySem.Spec PyProof.Rows L2
/-! ### arithmetic -/
theorem iteS {α : Type} {c : Prop} [Decidable c] {x y : α} (h : (if c then some x else none) = some y) : c ∧ x = y := by
  by_cases e : c
  · rw [if_pos e] at h; exact ⟨e, Option.some.inj h⟩
  · rw [if_neg e] at h; cases h
def oAdd : D → D → S → Option D
  | .int i, .int j, _ => some (.int (i + j))
  | .str x, .str y, _ => if x.length + y.length ≤ sizeLine then some (.str (x ++ y)) else none
  | .tuple xs, .tuple ys, _ => if xs.length + ys.length ≤ sizeLine then some (.tuple (xs ++ ys)) else none
  | .list xs, .list ys, _ => if xs.length + ys.length ≤ sizeLine then some (.list (xs ++ ys)) else none
  | _, _, _ => none
def oSub : D → D → S → Option D
  | .int i, .int j, _ => some (.int (i - j))
  | _, _, _ => none
def oMul : D → D → S → Option D
  | .int i, .int j, _ => if (-(2 ^ 64) < i ∧ i < 2 ^ 64) ∨ (-(2 ^ 64) < j ∧ j < 2 ^ 64) then some (.int (i * j)) else none
  | .list xs, .int k, _ => if -(2 ^ 63) ≤ k ∧ k < 2 ^ 63 ∧ xs.length * k.toNat ≤ sizeLine then some (.list (List.replicate k.toNat xs).flatten) else none
  | .tuple xs, .int k, _ => if xs ≠ [] ∧ 2 ≤ k ∧ k ≤ 1000 ∧ xs.length ≤ 1000 then some (.tuple (List.replicate k.toNat xs).flatten) else none
  | _, _, _ => none
def oDiv : D → D → S → Option D
  | .int i, .int j, _ => if 0 < j ∧ j < 1073741824 then some (.int (i / j)) else none
  | _, _, _ => none
def oMod : D → D → S → Option D
  | .int i, .int j, _ => if 0 < j then some (.int (i % j)) else none
  | _, _, _ => none
def oPow : D → D → S → Option D
  | .int i, .int j, _ => if 0 ≤ j ∧ j ≤ 1000000 ∧ i.natAbs < 2 ^ 64 then some (.int (i ^ j.toNat)) else none
  | _, _, _ => none
theorem DenL.rep {C : Ct} {F : Hp} {am : List Addr} {ds : List D} {vs : List V} (h : DenL C F am vs ds) : ∀ k : Nat, DenL C F am (List.replicate k vs).flatten (List.replicate k ds).flatten
  | 0 => .nil
  | k + 1 => by
    rw [List.replicate_succ, List.replicate_succ, List.flatten_cons, List.flatten_cons]
    exact h.append (DenL.rep h k)
theorem DenL.nil_iff {C : Ct} {F : Hp} {am : List Addr} {ds : List D} {vs : List V} (h : DenL C F am vs ds) : vs = [] ↔ ds = [] := by
  cases h <;> simp
section
variable {T : Tb} {X : Cx}
theorem od_add : OpD T X (rD (ct T X)) (rD (ct T X)) (rD (ct T X)) (binaryOp .Add) oAdd :=
  ⟨_, OpR.or op_add (OpR.or op_add_str (OpR.or op_catA op_cat)), fun g s H x y a b c Q sr ra rb e h => by
    match a, b, ra, rb, e with
    | .int i, .int j, ra, rb, e => cases ra; cases rb; cases e; exact .inl ⟨i, j, rfl, rfl, h.here sr (.int _)⟩
    | .str i, .str j, ra, rb, e =>
      cases ra; cases rb
      obtain ⟨z, rfl⟩ := iteS e
      exact .inr (.inl ⟨i, j, rfl, rfl, z, h.here sr (.str _)⟩)
    | .tuple i, .tuple j, ra, rb, e =>
      cases ra with
      | tup ta la =>
        cases rb with
        | tup tb lb =>
          obtain ⟨z, rfl⟩ := iteS e
          · refine .inr (.inr (.inl ⟨_, _, _, _, rfl, rfl, sr.sub.sqT ta, sr.sub.sqT tb, by rw [la.length, lb.length]; exact z, fun q => ?_, fun _ q => ?_, fun _ _ p np => h.tup sr (la.append lb) np⟩))
            · have := la.nil_iff.mp q
              subst this
              exact h.here sr (.tup tb lb)
            · have := lb.nil_iff.mp q
              subst this
              rw [List.append_nil] at h
              exact h.here sr (.tup ta la)
    | .list i, .list j, ra, rb, e =>
      cases ra with
      | lst ta la =>
        cases rb with
        | lst tb lb =>
          obtain ⟨z, rfl⟩ := iteS e
          exact .inr (.inr (.inr ⟨_, _, _, _, rfl, rfl, sr.sub _ _ ta, sr.sub _ _ tb, by rw [la.length, lb.length]; exact z, fun p np => h.lst sr (la.append lb) np⟩))⟩
theorem od_sub : OpD T X (rD (ct T X)) (rD (ct T X)) (rD (ct T X)) (binaryOp .Sub) oSub :=
  ⟨_, op_sub, fun g s H x y a b c Q sr ra rb e h => by
    match a, b, ra, rb, e with
    | .int i, .int j, ra, rb, e => cases ra; cases rb; cases e; exact ⟨i, j, rfl, rfl, h.here sr (.int _)⟩⟩
theorem od_mul : OpD T X (rD (ct T X)) (rD (ct T X)) (rD (ct T X)) (binaryOp .Mult) oMul :=
  ⟨_, OpR.or op_mul (OpR.or op_rep op_repT), fun g s H x y a b c Q sr ra rb e h => by
    match a, b, ra, rb, e with
    | .int i, .int j, ra, rb, e =>
      cases ra; cases rb
      obtain ⟨z, rfl⟩ := iteS e
      exact .inl ⟨i, j, rfl, rfl, z, h.here sr (.int _)⟩
    | .list i, .int j, ra, rb, e =>
      cases rb
      cases ra with
      | lst ta la =>
        obtain ⟨z, rfl⟩ := iteS e
        exact .inr (.inl ⟨_, _, _, rfl, rfl, sr.sub _ _ ta, z.1, z.2.1, by rw [la.length]; exact z.2.2, fun p np => h.lst sr (la.rep _) np⟩)
    | .tuple i, .int j, ra, rb, e =>
      cases rb
      cases ra with
      | tup ta la =>
        obtain ⟨z, rfl⟩ := iteS e
        exact .inr (.inr ⟨_, _, _, rfl, rfl, sr.sub.sqT ta, fun q => z.1 (la.nil_iff.mp q), z.2.1, z.2.2.1, by rw [la.length]; exact z.2.2.2, fun p np => h.tup sr (la.rep _) np⟩)⟩
theorem od_div : OpD T X (rD (ct T X)) (rD (ct T X)) (rD (ct T X)) (binaryOp .FloorDiv) oDiv :=
  ⟨_, op_fdiv, fun g s H x y a b c Q sr ra rb e h => by
    match a, b, ra, rb, e with
    | .int i, .int j, ra, rb, e =>
      cases ra; cases rb
      obtain ⟨z, rfl⟩ := iteS e
      exact ⟨i, j, rfl, rfl, z, h.here sr (.int _)⟩⟩
theorem od_mod : OpD T X (rD (ct T X)) (rD (ct T X)) (rD (ct T X)) (binaryOp .Mod) oMod :=
  ⟨_, op_mod, fun g s H x y a b c Q sr ra rb e h => by
    match a, b, ra, rb, e with
    | .int i, .int j, ra, rb, e =>
      cases ra; cases rb
      obtain ⟨z, rfl⟩ := iteS e
      exact ⟨i, j, rfl, rfl, z, h.here sr (.int _)⟩⟩
theorem od_pow : OpD T X (rD (ct T X)) (rD (ct T X)) (rD (ct T X)) (binaryOp .Pow) oPow :=
  ⟨_, op_pow, fun g s H x y a b c Q sr ra rb e h => by
    match a, b, ra, rb, e with
    | .int i, .int j, ra, rb, e =>
      cases ra; cases rb
      obtain ⟨z, rfl⟩ := iteS e
      exact ⟨i, j, rfl, rfl, z, h.here sr (.int _)⟩⟩
/-! ### comparisons -/
def oLt : D → D → S → Option D
  | .int i, .int j, _ => some (.bool (decide (i < j)))
  | .str x, .str y, _ => some (.bool (decide (x.cps.toList < y.cps.toList)))
  | _, _, _ => none
def oLe : D → D → S → Option D
  | .int i, .int j, _ => some (.bool (decide (i ≤ j)))
  | .str x, .str y, _ => some (.bool (!decide (y.cps.toList < x.cps.toList)))
  | _, _, _ => none
def oGt : D → D → S → Option D
  | .int i, .int j, _ => some (.bool (decide (j < i)))
  | .str x, .str y, _ => some (.bool (decide (y.cps.toList < x.cps.toList)))
  | _, _, _ => none
def oGe : D → D → S → Option D
  | .int i, .int j, _ => some (.bool (decide (j ≤ i)))
  | .str x, .str y, _ => some (.bool (!decide (x.cps.toList < y.cps.toList)))
  | _, _, _ => none
theorem od_lt : OpD T X (rD (ct T X)) (rD (ct T X)) (rD (ct T X)) (compareOp .Lt) oLt :=
  ⟨_, OpR.or op_lt op_lt_str, fun g s H x y a b c Q sr ra rb e h => by
    match a, b, ra, rb, e with
    | .int i, .int j, ra, rb, e => cases ra; cases rb; cases e; exact .inl ⟨i, j, rfl, rfl, h.here sr (.bl _)⟩
    | .str i, .str j, ra, rb, e => cases ra; cases rb; cases e; exact .inr ⟨i, j, rfl, rfl, h.here sr (.bl _)⟩⟩
theorem od_le : OpD T X (rD (ct T X)) (rD (ct T X)) (rD (ct T X)) (compareOp .LtE) oLe :=
  ⟨_, OpR.or op_le op_le_str, fun g s H x y a b c Q sr ra rb e h => by
    match a, b, ra, rb, e with
    | .int i, .int j, ra, rb, e => cases ra; cases rb; cases e; exact .inl ⟨i, j, rfl, rfl, h.here sr (.bl _)⟩
    | .str i, .str j, ra, rb, e => cases ra; cases rb; cases e; exact .inr ⟨i, j, rfl, rfl, h.here sr (.bl _)⟩⟩
theorem od_gt : OpD T X (rD (ct T X)) (rD (ct T X)) (rD (ct T X)) (compareOp .Gt) oGt :=
  ⟨_, OpR.or op_gt op_gt_str, fun g s H x y a b c Q sr ra rb e h => by
    match a, b, ra, rb, e with
    | .int i, .int j, ra, rb, e => cases ra; cases rb; cases e; exact .inl ⟨i, j, rfl, rfl, h.here sr (.bl _)⟩
    | .str i, .str j, ra, rb, e => cases ra; cases rb; cases e; exact .inr ⟨i, j, rfl, rfl, h.here sr (.bl _)⟩⟩
theorem od_ge : OpD T X (rD (ct T X)) (rD (ct T X)) (rD (ct T X)) (compareOp .GtE) oGe :=
  ⟨_, OpR.or op_ge op_ge_str, fun g s H x y a b c Q sr ra rb e h => by
    match a, b, ra, rb, e with
    | .int i, .int j, ra, rb, e => cases ra; cases rb; cases e; exact .inl ⟨i, j, rfl, rfl, h.here sr (.bl _)⟩
    | .str i, .str j, ra, rb, e => cases ra; cases rb; cases e; exact .inr ⟨i, j, rfl, rfl, h.here sr (.bl _)⟩⟩

mutual
theorem Den.dp {K : PySem.W.Frag} {C : Ct} (hk : C.K = K) {F : Hp} {am : List Addr} {H : Hp} (sub : Sub F H) : ∀ {d : D} {v : V}, d.hasDict = false → Den C F am v d → Dp K H v d
  | _, _, _, .non => .non
  | _, _, _, .bl b => .bl b
  | _, _, _, .int i => .int i
  | _, _, _, .str x => .str x
  | _, _, e, .lst h t => .lst (.inl (.inl (sub _ _ h))) (DenL.dp hk sub (by simpa [PyData.hasDict] using e) t)
  | _, _, e, .tup h t => .tup (by rw [← hk]; exact sub.sqT h) (DenL.dp hk sub (by simpa [PyData.hasDict] using e) t)
  | _, _, e, .sc _ _ => by simp [PyData.hasDict] at e
  | _, _, e, .fn _ => by simp [PyData.hasDict] at e
  | _, _, e, .mu _ => by simp [PyData.hasDict] at e
  | _, _, e, .ed _ => by simp [PyData.hasDict] at e
theorem DenL.dp {K : PySem.W.Frag} {C : Ct} (hk : C.K = K) {F : Hp} {am : List Addr} {H : Hp} (sub : Sub F H) : ∀ {ds : List D} {vs : List V}, PyData.hasDictAll ds = false → DenL C F am vs ds → DpAll K H vs ds
  | _, _, _, .nil => .nil
  | _, _, e, .cons h t => by
    simp only [PyData.hasDictAll, Bool.or_eq_false_iff] at e
    exact .cons (Den.dp hk sub e.1 h) (DenL.dp hk sub e.2 t)
end
theorem noDict_of {d : D} (h : SeqAt.shaped d = true) : d.hasDict = false := PyData.hasDict_of_canLay d (SeqAt.canLay_of_shaped h)
def eqD : D → D → Option Bool
  | .int i, .int j => some (i == j)
  | .str i, .str j => some (i == j)
  | .bool i, .bool j => some (i == j)
  | a, b => if SeqAt.shaped a && SeqAt.shaped b then some (PyData.eqv a b) else none
def oEq (a b : D) (_ : S) : Option D := (eqD a b).map .bool
def oNe (a b : D) (_ : S) : Option D := (eqD a b).map fun c => .bool (!c)
theorem eqD_cases {C : Ct} {g : Gh} {x y : V} {a b : D} {c : Bool} (ra : DenG C g x a) (rb : DenG C g y b) (e : eqD a b = some c) :
    (scal x y = true ∧ c = decide (x = y)) ∨ (SeqAt.shaped a = true ∧ SeqAt.shaped b = true ∧ c = PyData.eqv a b) := by
  unfold eqD at e
  split at e
  · cases ra; cases rb; cases e; exact .inl ⟨rfl, dec_int.symm⟩
  · cases ra; cases rb; cases e; exact .inl ⟨rfl, dec_str.symm⟩
  · cases ra; cases rb; cases e; exact .inl ⟨rfl, dec_bl.symm⟩
  · split at e
    · rename_i z
      rw [Bool.and_eq_true] at z
      cases e
      exact .inr ⟨z.1, z.2, rfl⟩
    · cases e
theorem od_eq (hu : X.A.units + 150 < cLine) : OpD T X (rD (ct T X)) (rD (ct T X)) (rD (ct T X)) (compareOp .Eq) oEq :=
  ⟨_, OpR.or op_eq (op_eqD (by omega)), fun g s H x y a b c Q sr ra rb e h => by
    unfold oEq at e
    cases q : eqD a b with
    | none => rw [q] at e; cases e
    | some k =>
      rw [q] at e
      cases e
      rcases eqD_cases ra rb q with ⟨z, rfl⟩ | ⟨z1, z2, rfl⟩
      · exact .inl ⟨z, h.here sr (.bl _)⟩
      · exact .inr ⟨a, b, Den.dp rfl sr.sub (noDict_of z1) ra, Den.dp rfl sr.sub (noDict_of z2) rb, z1, z2, h.here sr (.bl _)⟩⟩
theorem od_ne (hu : X.A.units + 150 < cLine) : OpD T X (rD (ct T X)) (rD (ct T X)) (rD (ct T X)) (compareOp .NotEq) oNe :=
  ⟨_, OpR.or op_ne (op_neD (by omega)), fun g s H x y a b c Q sr ra rb e h => by
    unfold oNe at e
    cases q : eqD a b with
    | none => rw [q] at e; cases e
    | some k =>
      rw [q] at e
      cases e
      rcases eqD_cases ra rb q with ⟨z, rfl⟩ | ⟨z1, z2, rfl⟩
      · exact .inl ⟨z, h.here sr (.bl _)⟩
      · exact .inr ⟨a, b, Den.dp rfl sr.sub (noDict_of z1) ra, Den.dp rfl sr.sub (noDict_of z2) rb, z1, z2, h.here sr (.bl _)⟩⟩
/-- of an own list as an operand: the same as of the value -/
theorem DenL.dpAll {C : Ct} {g : Gh} {s : S} {H : Hp} (sr : SR C g s H) {a : Bool × List D} {v : V} (h : rQ C g H v a) (e : PyData.hasDictAll a.2 = false) : Dp C.K H v (if a.1 = true then .tuple a.2 else .list a.2) := by
  obtain ⟨p, vs, rfl, l, q⟩ := h.at sr.sub
  rcases q with ⟨b, q⟩ | ⟨b, q⟩
  · rw [if_pos b]; exact .tup q (DenL.dp rfl sr.sub e l)
  · rw [if_neg (by rw [b]; decide)]; exact .lst (.inl (.inl q)) (DenL.dp rfl sr.sub e l)
def ofQ (a : Bool × List D) : D := if a.1 = true then .tuple a.2 else .list a.2
def eqQ (a b : Bool × List D) : Option Bool := if SeqAt.shaped (ofQ a) && SeqAt.shaped (ofQ b) then some (PyData.eqv (ofQ a) (ofQ b)) else none
def oEqQ (a b : Bool × List D) (_ : S) : Option D := (eqQ a b).map .bool
def oNeQ (a b : Bool × List D) (_ : S) : Option D := (eqQ a b).map fun c => .bool (!c)
theorem nodQ {a : Bool × List D} (h : SeqAt.shaped (ofQ a) = true) : PyData.hasDictAll a.2 = false := by
  have := noDict_of h
  unfold ofQ at this
  split at this <;> simpa [PyData.hasDict] using this
theorem od_eqQ (hu : X.A.units + 150 < cLine) : OpD T X (rQ (ct T X)) (rQ (ct T X)) (rD (ct T X)) (compareOp .Eq) oEqQ :=
  ⟨_, op_eqD (by omega), fun g s H x y a b c Q sr ra rb e h => by
    unfold oEqQ eqQ at e
    split at e
    · rename_i z
      rw [Bool.and_eq_true] at z
      cases e
      exact ⟨_, _, DenL.dpAll sr ra (nodQ z.1), DenL.dpAll sr rb (nodQ z.2), z.1, z.2, h.here sr (.bl _)⟩
    · cases e⟩
theorem od_neQ (hu : X.A.units + 150 < cLine) : OpD T X (rQ (ct T X)) (rQ (ct T X)) (rD (ct T X)) (compareOp .NotEq) oNeQ :=
  ⟨_, op_neD (by omega), fun g s H x y a b c Q sr ra rb e h => by
    unfold oNeQ eqQ at e
    split at e
    · rename_i z
      rw [Bool.and_eq_true] at z
      cases e
      exact ⟨_, _, DenL.dpAll sr ra (nodQ z.1), DenL.dpAll sr rb (nodQ z.2), z.1, z.2, h.here sr (.bl _)⟩
    · cases e⟩
def oCatQ (a b : Bool × List D) (_ : S) : Option D := if a.1 = false ∧ b.1 = false ∧ a.2.length + b.2.length ≤ sizeLine then some (.list (a.2 ++ b.2)) else none
theorem od_catQ : OpD T X (rQ (ct T X)) (rQ (ct T X)) (rD (ct T X)) (binaryOp .Add) oCatQ :=
  ⟨_, op_cat, fun g s H x y a b c Q sr ra rb e h => by
    unfold oCatQ at e
    split at e
    · rename_i z
      cases e
      obtain ⟨p, vs, rfl, l, q⟩ := ra.at sr.sub
      obtain ⟨p', vs', rfl, l', q'⟩ := rb.at sr.sub
      rcases q with ⟨b1, q⟩ | ⟨b1, q⟩
      · rw [z.1] at b1; cases b1
      · rcases q' with ⟨b2, q'⟩ | ⟨b2, q'⟩
        · rw [z.2.1] at b2; cases b2
        · exact ⟨_, _, _, _, rfl, rfl, q, q', by rw [l.length, l'.length]; exact z.2.2, fun p np => h.lst sr (l.append l') np⟩
    · cases e⟩
def oIs : D → D → S → Option D
  | .bool a, .bool b, _ => some (.bool (decide (a = b)))
  | .none, .none, _ => some (.bool true)
  | _, .none, _ => some (.bool false)
  | _, _, _ => none
def oIsNot : D → D → S → Option D
  | .bool a, .bool b, _ => some (.bool (!decide (a = b)))
  | .none, .none, _ => some (.bool false)
  | _, .none, _ => some (.bool true)
  | _, _, _ => none
theorem od_is : OpD T X (rD (ct T X)) (rD (ct T X)) (rD (ct T X)) (compareOp .Is) oIs :=
  ⟨_, OpR.or op_isBl op_isN, fun g s H x y a b c Q sr ra rb e h => by
    unfold oIs at e
    split at e
    · cases ra; cases rb; cases e; exact .inl ⟨_, _, rfl, rfl, h.here sr (.bl _)⟩
    · cases ra; cases rb; cases e; exact .inr ⟨rfl, h.here sr (.bl _)⟩
    · rename_i n
      cases rb; cases e
      refine .inr ⟨rfl, h.here sr ?_⟩
      have : x ≠ .non := fun z => by subst z; cases ra; exact n rfl
      rw [decide_eq_false this]
      exact .bl _
    · cases e⟩
theorem od_isNot : OpD T X (rD (ct T X)) (rD (ct T X)) (rD (ct T X)) (compareOp .IsNot) oIsNot :=
  ⟨_, OpR.or op_notBl op_notN, fun g s H x y a b c Q sr ra rb e h => by
    unfold oIsNot at e
    split at e
    · cases ra; cases rb; cases e; exact .inl ⟨_, _, rfl, rfl, h.here sr (.bl _)⟩
    · cases ra; cases rb; cases e; exact .inr ⟨rfl, h.here sr (.bl _)⟩
    · rename_i n
      cases rb; cases e
      refine .inr ⟨rfl, h.here sr ?_⟩
      have : x ≠ .non := fun z => by subst z; cases ra; exact n rfl
      rw [decide_eq_false this]
      exact .bl _
    · cases e⟩
end
end Dn

set_option Elab.async false
set_option linter.all false
set_option maxRecDepth 100000
set_option maxHeartbeats 4000000
namespace Dn
open PySem PySem.Spec PyProof.Rows L2
/-! ### operations of one; calls of built-ins -/
def mOp1 {α γ : Type} (f : α → S → Option γ) (m : M α) : M γ := fun env s => (m env s).bind fun a s1 => R.lift (f a s1) s1
def CallD (T : Tb) (X : Cx) {α γ : Type} (Ra : RR α) (Rr : RR γ) (fn : Value) (f : α → S → Option γ) : Prop :=
  ∃ r : List V → Hp → VK → Prop, CallR X fn r ∧ ∀ (g : Gh) (s : S) (H : Hp) (x : V) (a : α) (c : γ) (Q : VK), SR (ct T X) g s H → Ra g H x a → f a s = some c → Gv (ct T X) Rr g H Q c s → r [x] H Q
def CallD2 (T : Tb) (X : Cx) {α β γ : Type} (Ra : RR α) (Rb : RR β) (Rr : RR γ) (fn : Value) (f : α → β → S → Option γ) : Prop :=
  ∃ r : List V → Hp → VK → Prop, CallR X fn r ∧ ∀ (g : Gh) (s : S) (H : Hp) (x y : V) (a : α) (b : β) (c : γ) (Q : VK), SR (ct T X) g s H → Ra g H x a → Rb g H y b → f a b s = some c → Gv (ct T X) Rr g H Q c s → r [x, y] H Q
section
variable {T : Tb} {X : Cx} {W : WX} {α β γ : Type} {Ra : RR α} {Rb : RR β} {Rr : RR γ} {f : α → S → Option γ} {f2 : α → β → S → Option γ} {ma : M α} {mb : M β} {e e2 : Expr} {x : Str} {p pos : Pos}
theorem op1_core {r : V → Hp → VK → Prop} (hr : ∀ (g : Gh) (s : S) (H : Hp) (x : V) (a : α) (c : γ) (Q : VK), SR (ct T X) g s H → Ra g H x a → f a s = some c → Gv (ct T X) Rr g H Q c s → r x H Q)
    (σ : L2.St) (H : Hp) (Q : VK) (h : tG (ct T X) W Rr (mOp1 f ma) σ H Q) : tG (ct T X) W Ra ma σ H fun v H1 => r v H1 Q := by
  refine tG_imp (tG_bind (R1 := Ra) (m := ma) (k := fun a _ s1 => R.lift (f a s1) s1) h) fun v H1 ⟨g1, env, s1, a, rel, ra, q⟩ => ?_
  cases e : f a s1 with
  | none => rw [e] at q; exact q.elim
  | some c => rw [e] at q; exact hr g1 s1 H1 v a c Q rel.toSR ra e q
theorem op2_core {r : V → V → Hp → VK → Prop} (s1 : Stays Ra) (hr : ∀ (g : Gh) (s : S) (H : Hp) (x y : V) (a : α) (b : β) (c : γ) (Q : VK), SR (ct T X) g s H → Ra g H x a → Rb g H y b → f2 a b s = some c → Gv (ct T X) Rr g H Q c s → r x y H Q)
    (σ : L2.St) (H : Hp) (Q : VK) (h : tG (ct T X) W Rr (mBin f2 ma mb) σ H Q) : tG (ct T X) W Ra ma σ H fun v H1 => tG (ct T X) W Rb mb σ H1 fun w H2 => r v w H2 Q :=
  bin_core (r := fun x y H Q => r x y H Q) s1 hr σ H Q h
theorem de_callB {id : String} (c : CallD T X Ra Rr (.builtin id) f) (hg : Gl X x) (hm : X.mg x = none) (hv : bootBuiltins x = some (.builtin id)) (ha : PE X e (tG (ct T X) W Ra ma)) (hn : x ≠ "__name__" := by decide) (hdb : (x == ("__debug__" : Str)) = false := by decide)
    (hs : starEach [e] X.env = (false, eval e X.env) :: starEach [] X.env := by rfl) (hpl : (backTo pos (starEach [] X.env)).any (·.1) = false := by rfl) : PE X (.Call (.Name x p) [e] [] pos) (tG (ct T X) W Rr (mOp1 f ma)) := by
  obtain ⟨r, cr, hr⟩ := c
  refine pe_imp (pe_callB cr hg hm hv (pa_cons ha pa_nil hs) hn hdb hs hpl) fun σ H Q q => ?_
  exact op1_core (r := fun x H Q => r [x] H Q) hr σ H Q q
theorem de_callT {id : String} (c : CallD T X Ra Rr (.type id) f) (hg : Gl X x) (hm : X.mg x = none) (hv : bootBuiltins x = some (.type id)) (ha : PE X e (tG (ct T X) W Ra ma)) (hn : x ≠ "__name__" := by decide) (hdb : (x == ("__debug__" : Str)) = false := by decide)
    (hs : starEach [e] X.env = (false, eval e X.env) :: starEach [] X.env := by rfl) (hpl : (backTo pos (starEach [] X.env)).any (·.1) = false := by rfl) : PE X (.Call (.Name x p) [e] [] pos) (tG (ct T X) W Rr (mOp1 f ma)) := by
  obtain ⟨r, cr, hr⟩ := c
  refine pe_imp (pe_callTy cr hg hm hv (pa_cons ha pa_nil hs) hn hdb hs hpl) fun σ H Q q => ?_
  exact op1_core (r := fun x H Q => r [x] H Q) hr σ H Q q
theorem de_callB2 {id : String} (s1 : Stays Ra) (c : CallD2 T X Ra Rb Rr (.builtin id) f2) (hg : Gl X x) (hm : X.mg x = none) (hv : bootBuiltins x = some (.builtin id)) (ha : PE X e (tG (ct T X) W Ra ma)) (hb : PE X e2 (tG (ct T X) W Rb mb)) (hn : x ≠ "__name__" := by decide) (hdb : (x == ("__debug__" : Str)) = false := by decide)
    (hs2 : starEach [e2] X.env = (false, eval e2 X.env) :: starEach [] X.env := by rfl) (hs : starEach [e, e2] X.env = (false, eval e X.env) :: starEach [e2] X.env := by rfl) (hpl : (backTo pos (starEach [e2] X.env)).any (·.1) = false := by rfl) : PE X (.Call (.Name x p) [e, e2] [] pos) (tG (ct T X) W Rr (mBin f2 ma mb)) := by
  obtain ⟨r, cr, hr⟩ := c
  refine pe_imp (pe_callB cr hg hm hv (pa_cons ha (pa_cons hb pa_nil hs2) hs) hn hdb hs hpl) fun σ H Q q => ?_
  exact op2_core (r := fun x y H Q => r [x, y] H Q) s1 hr σ H Q q
end
/-- all ints of data -/
def intsD : List D → Option (List Int)
  | [] => some []
  | .int i :: ds => (intsD ds).map (i :: ·)
  | _ :: _ => none
theorem intsD_eq : ∀ {ds : List D} {ns : List Int}, intsD ds = some ns → ds = ns.map .int
  | [], ns, h => by cases h; rfl
  | .int i :: ds, ns, h => by
    have h : (intsD ds).map (i :: ·) = some ns := h
    cases e : intsD ds with
    | none => rw [e] at h; cases h
    | some ms => rw [e] at h; cases h; rw [List.map_cons, ← intsD_eq e]
theorem intsD_map : ∀ ns : List Int, intsD (ns.map .int) = some ns
  | [] => rfl
  | n :: ns => by
    show (intsD (ns.map .int)).map (n :: ·) = some (n :: ns)
    rw [intsD_map ns]
    rfl
def boolsD : List D → Option (List Bool)
  | [] => some []
  | .bool i :: ds => (boolsD ds).map (i :: ·)
  | _ :: _ => none
theorem boolsD_eq : ∀ {ds : List D} {ns : List Bool}, boolsD ds = some ns → ds = ns.map .bool
  | [], ns, h => by cases h; rfl
  | .bool i :: ds, ns, h => by
    have h : (boolsD ds).map (i :: ·) = some ns := h
    cases e : boolsD ds with
    | none => rw [e] at h; cases h
    | some ms => rw [e] at h; cases h; rw [List.map_cons, ← boolsD_eq e]
theorem boolsD_map : ∀ ns : List Bool, boolsD (ns.map .bool) = some ns
  | [] => rfl
  | n :: ns => by
    show (boolsD (ns.map .bool)).map (n :: ·) = some (n :: ns)
    rw [boolsD_map ns]
    rfl
theorem DenL.bools {C : Ct} {F : Hp} {am : List Addr} : ∀ {ns : List Bool} {vs : List V}, DenL C F am vs (ns.map .bool) → vs = ns.map V.bl
  | [], _, h => by cases h; rfl
  | n :: ns, _, h => by
    cases h with
    | cons h t =>
      cases h
      rw [DenL.bools t]
      rfl
section
variable {T : Tb} {X : Cx} {W : WX}
def oLen : D → S → Option D
  | .str x, _ => if x.length ≤ sizeLine then some (.int x.length) else none
  | .list ds, _ => some (.int ds.length)
  | .tuple ds, _ => some (.int ds.length)
  | .dict [(.int 0, .list ds)], _ => some (.int ds.length)
  | _, _ => none
theorem cd_len : CallD T X (rD (ct T X)) (rD (ct T X)) (.builtin "len") oLen :=
  ⟨_, CallR.or call_len_str call_len_seq, fun g s H x a c Q sr ra e h => by
    unfold oLen at e
    split at e
    · cases ra; obtain ⟨z, rfl⟩ := iteS e; exact .inl ⟨_, rfl, z, h.here sr (.int _)⟩
    · cases ra with
      | lst t l => cases e; exact .inr ⟨_, _, rfl, .inl (.inl (.inl (sr.sub _ _ t))), h.here sr (by rw [l.length]; exact .int _)⟩
    · cases ra with
      | tup t l => cases e; exact .inr ⟨_, _, rfl, .inr (sr.sub.sqT t), h.here sr (by rw [l.length]; exact .int _)⟩
    · cases ra with
      | sc t l => cases e; exact .inr ⟨_, _, rfl, .inl (sr.sub.sqL t), h.here sr (by rw [l.length]; exact .int _)⟩
    · cases e⟩
def oLenQ (a : Bool × List D) (_ : S) : Option D := some (.int a.2.length)
theorem cd_lenQ : CallD T X (rQ (ct T X)) (rD (ct T X)) (.builtin "len") oLenQ :=
  ⟨_, call_len_seq, fun g s H x a c Q sr ra e h => by
    cases e
    obtain ⟨p, vs, rfl, l, q⟩ := ra.at sr.sub
    exact ⟨_, _, rfl, q.elim (fun q => .inr q.2) fun q => .inl (.inl (.inl q.2)), h.here sr (by rw [l.length]; exact .int _)⟩⟩
/-- hand[i] too: an item of what the store holds -/
def oIx : D → D → S → Option D
  | .list ds, .int i, _ => atI ds i
  | .tuple ds, .int i, _ => atI ds i
  | .str z, .int i, _ => if z.length ≤ sizeLine then (atI z.cps.toList i).map fun c => .str ⟨#[c]⟩ else none
  | .dict [(.bool true, .int n)], .int i, s => if 0 ≤ n then (s[n.toNat]?).bind fun ds => atI ds i else none
  | .dict [(.int 0, .list ds)], .int i, _ => atI ds i
  | _, _, _ => none
theorem atI_den {C : Ct} {F : Hp} {am : List Addr} {vs : List V} {ds : List D} {i : Int} {d : D} (l : DenL C F am vs ds) (h : atI ds i = some d) : ∃ v, atI vs i = some v ∧ Den C F am v d := by
  unfold atI at h ⊢
  rw [l.length]
  cases e : ixN ds.length i with
  | none => rw [e] at h; cases h
  | some j =>
    rw [e] at h
    exact l.get' h
theorem muD_at {C : Ct} {g : Gh} {s : S} {H : Hp} {x : V} {n : Int} (sr : SR C g s H) (ra : DenG C g x (.dict [(.bool true, .int n)])) {ds : List D} (h : s[n.toNat]? = some ds) : ∃ a vs, x = .ref a ∧ g.am[n.toNat]? = some a ∧ H a = some (.lst vs) ∧ g.F a = none ∧ DenGL C g vs ds := by
  cases ra with
  | mu e =>
    obtain ⟨a, vs, h1, h2, h3, h4⟩ := sr.st _ _ h
    rw [Int.toNat_natCast] at h1 ⊢
    rw [h1] at e
    cases e
    exact ⟨_, vs, rfl, h1, h2, h3, h4⟩
def IxD (T : Tb) (X : Cx) {α : Type} (Ra : RR α) (f : α → D → S → Option D) : Prop :=
  ∃ r : L2.R2, IxR X r ∧ ∀ (g : Gh) (s : S) (H : Hp) (x y : V) (a : α) (b : D) (c : D) (Q : VK), SR (ct T X) g s H → Ra g H x a → DenG (ct T X) g y b → f a b s = some c → Gv (ct T X) (rD (ct T X)) g H Q c s → r x y H Q
theorem xd_ix : IxD T X (rD (ct T X)) oIx :=
  ⟨_, ix_seq, fun g s H x y a b c Q sr ra rb e h => by
    unfold oIx at e
    split at e
    · cases rb
      cases ra with
      | lst t l =>
        obtain ⟨v, e1, dn⟩ := atI_den l e
        exact .inl ⟨_, _, _, v, rfl, rfl, .inl (.inl (sr.sub _ _ t)), e1, h.here sr dn⟩
    · cases rb
      cases ra with
      | tup t l =>
        obtain ⟨v, e1, dn⟩ := atI_den l e
        exact .inr (.inl ⟨_, _, _, v, rfl, rfl, sr.sub.sqT t, e1, h.here sr dn⟩)
    · rename_i z i
      cases rb
      cases ra
      by_cases hz : z.length ≤ sizeLine
      · rw [if_pos hz] at e
        cases q : atI z.cps.toList i with
        | none => rw [q] at e; cases e
        | some k => rw [q] at e; cases e; exact .inr (.inr ⟨_, _, _, rfl, rfl, hz, q, h.here sr (.str _)⟩)
      · rw [if_neg hz] at e; cases e
    · rename_i n i
      cases rb
      by_cases hz : 0 ≤ n
      · rw [if_pos hz] at e
        cases q : s[n.toNat]? with
        | none => rw [q] at e; cases e
        | some ds =>
          rw [q] at e
          obtain ⟨p, vs, rfl, h1, h2, h3, l⟩ := muD_at sr ra q
          obtain ⟨v, e1, dn⟩ := atI_den l e
          exact .inl ⟨_, _, _, v, rfl, rfl, .inl (.inl h2), e1, h.here sr dn⟩
      · rw [if_neg hz] at e; cases e
    · cases rb
      cases ra with
      | sc t l =>
        obtain ⟨v, e1, dn⟩ := atI_den l e
        exact .inl ⟨_, _, _, v, rfl, rfl, sr.sub.sqL t, e1, h.here sr dn⟩
    · cases e⟩
def oIxQ (a : Bool × List D) : D → S → Option D
  | .int i, _ => atI a.2 i
  | _, _ => none
theorem xd_ixQ : IxD T X (rQ (ct T X)) oIxQ :=
  ⟨_, ix_seq, fun g s H x y a b c Q sr ra rb e h => by
    obtain ⟨p, vs, rfl, l, q⟩ := ra.at sr.sub
    match b, rb, e with
    | .int i, rb, e =>
      cases rb
      obtain ⟨v, e1, dn⟩ := atI_den l e
      rcases q with ⟨_, q⟩ | ⟨_, q⟩
      · exact .inr (.inl ⟨_, _, _, v, rfl, rfl, q, e1, h.here sr dn⟩)
      · exact .inl ⟨_, _, _, v, rfl, rfl, .inl (.inl q), e1, h.here sr dn⟩⟩
theorem de_ix {α : Type} {Ra : RR α} {f : α → D → S → Option D} {ma : M α} {mb : M D} {a b : Expr} {pos : Pos} (s1 : Stays Ra) (o : IxD T X Ra f) (ha : PE X a (tG (ct T X) W Ra ma)) (hb : DE T X W b mb) (hs : PlainIx b := by intro _ _; rfl) : DE T X W (.Subscript a b pos) (mBin f ma mb) := by
  obtain ⟨r, ho, hr⟩ := o
  exact pe_imp (pe_ix ho ha hb hs) (bin_core s1 hr)
/-! sums, least, greatest, all, any, the conversions -/
def oSum (a : Bool × List D) (_ : S) : Option D := if a.1 = false then (intsD a.2).map fun ns => .int ns.sum else none
theorem cd_sum (hc : X.calm = true) : CallD T X (rQ (ct T X)) (rD (ct T X)) (.builtin "sum") oSum :=
  ⟨_, cr_sum hc, fun g s H x a c Q sr ra e h => by
    obtain ⟨p, vs, rfl, l, q⟩ := ra.at sr.sub
    unfold oSum at e
    rcases q with ⟨b, q⟩ | ⟨b, q⟩
    · rw [if_neg (by rw [b]; decide)] at e; cases e
    · rw [if_pos b] at e
      cases ei : intsD a.2 with
      | none => rw [ei] at e; cases e
      | some ns =>
        rw [ei] at e; cases e
        rw [intsD_eq ei] at l
        exact ⟨p, ns, rfl, .inl (.inl (by rw [← l.ints]; exact q)), h.here sr (.int _)⟩⟩
def oAll (a : Bool × List D) (_ : S) : Option D := if a.1 = false then (boolsD a.2).map fun ns => .bool (ns.all id) else none
def oAny (a : Bool × List D) (_ : S) : Option D := if a.1 = false then (boolsD a.2).map fun ns => .bool (ns.any id) else none
theorem cd_all (hc : X.calm = true) : CallD T X (rQ (ct T X)) (rD (ct T X)) (.builtin "all") oAll :=
  ⟨_, cr_all hc, fun g s H x a c Q sr ra e h => by
    obtain ⟨p, vs, rfl, l, q⟩ := ra.at sr.sub
    unfold oAll at e
    rcases q with ⟨b, q⟩ | ⟨b, q⟩
    · rw [if_neg (by rw [b]; decide)] at e; cases e
    · rw [if_pos b] at e
      cases ei : boolsD a.2 with
      | none => rw [ei] at e; cases e
      | some ns =>
        rw [ei] at e; cases e
        rw [boolsD_eq ei] at l
        exact ⟨p, ns, rfl, .inl (.inl (by rw [← l.bools]; exact q)), h.here sr (.bl _)⟩⟩
theorem cd_any (hc : X.calm = true) : CallD T X (rQ (ct T X)) (rD (ct T X)) (.builtin "any") oAny :=
  ⟨_, cr_any hc, fun g s H x a c Q sr ra e h => by
    obtain ⟨p, vs, rfl, l, q⟩ := ra.at sr.sub
    unfold oAny at e
    rcases q with ⟨b, q⟩ | ⟨b, q⟩
    · rw [if_neg (by rw [b]; decide)] at e; cases e
    · rw [if_pos b] at e
      cases ei : boolsD a.2 with
      | none => rw [ei] at e; cases e
      | some ns =>
        rw [ei] at e; cases e
        rw [boolsD_eq ei] at l
        exact ⟨p, ns, rfl, .inl (.inl (by rw [← l.bools]; exact q)), h.here sr (.bl _)⟩⟩
def oAbs : D → S → Option D
  | .int i, _ => some (.int (if i < 0 then -i else i))
  | _, _ => none
theorem cd_abs : CallD T X (rD (ct T X)) (rD (ct T X)) (.builtin "abs") oAbs :=
  ⟨_, call_abs, fun g s H x a c Q sr ra e h => by
    match a, ra, e with
    | .int i, ra, e => cases ra; cases e; exact ⟨i, rfl, h.here sr (.int _)⟩⟩
def oMax2 : D → D → S → Option D
  | .int i, .int j, _ => some (.int (if j > i then j else i))
  | _, _, _ => none
def oMin2 : D → D → S → Option D
  | .int i, .int j, _ => some (.int (if j < i then j else i))
  | _, _, _ => none
theorem cd_max2 (hc : X.calm = true) : CallD2 T X (rD (ct T X)) (rD (ct T X)) (rD (ct T X)) (.builtin "max") oMax2 :=
  ⟨_, call_max2 hc, fun g s H x y a b c Q sr ra rb e h => by
    match a, b, ra, rb, e with
    | .int i, .int j, ra, rb, e => cases ra; cases rb; cases e; exact ⟨i, j, rfl, h.here sr (.int _)⟩⟩
theorem cd_min2 (hc : X.calm = true) : CallD2 T X (rD (ct T X)) (rD (ct T X)) (rD (ct T X)) (.builtin "min") oMin2 :=
  ⟨_, call_min2 hc, fun g s H x y a b c Q sr ra rb e h => by
    match a, b, ra, rb, e with
    | .int i, .int j, ra, rb, e => cases ra; cases rb; cases e; exact ⟨i, j, rfl, h.here sr (.int _)⟩⟩
def oTupOf (a : Bool × List D) (_ : S) : Option D := some (.tuple a.2)
theorem cd_tuple : CallD T X (rQ (ct T X)) (rD (ct T X)) (.type "tuple") oTupOf :=
  ⟨_, call_tuple_of, fun g s H x a c Q sr ra e h => by
    cases e
    obtain ⟨p, vs, rfl, l, q⟩ := id ra
    rcases q with ⟨b, q⟩ | ⟨b, q⟩
    · exact ⟨_, _, rfl, .inr ⟨sr.sub.sqT q, h.here sr (.tup q l)⟩⟩
    · exact ⟨_, _, rfl, .inl ⟨.inl (.inl (q.elim (sr.sub _ _) And.left)), fun p np => h.tup sr l np⟩⟩⟩
def oLstOf (a : Bool × List D) (_ : S) : Option D := some (.list a.2)
theorem cd_list : CallD T X (rQ (ct T X)) (rD (ct T X)) (.type "list") oLstOf :=
  ⟨_, call_list_of, fun g s H x a c Q sr ra e h => by
    cases e
    obtain ⟨p, vs, rfl, l, q⟩ := ra.at sr.sub
    exact ⟨_, _, rfl, q.elim (fun q => .inr q.2) (fun q => .inl (.inl (.inl q.2))), fun p np => h.lst sr l np⟩⟩
def oNeg : D → S → Option D
  | .int i, _ => some (.int (-i))
  | _, _ => none
theorem de_neg {m : M D} {e : Expr} {pos : Pos} (h : DE T X W e m) : DE T X W (.UnaryOp .USub e pos) (mOp1 oNeg m) :=
  pe_imp (pe_un un_neg h) fun σ H Q q => op1_core (r := fun x H Q => rU (fun i => .int (-i)) x H Q) (fun g s H x a c Q sr ra e h => by
    match a, ra, e with
    | .int i, ra, e => cases ra; cases e; exact ⟨i, rfl, h.here sr (.int _)⟩) σ H Q q
/-! int(..), str(..) -/
def strOf : D → Option Str
  | .int i => if i.natAbs.log2 < 1920 then some (toString i) else none
  | .str x => some x
  | _ => none
def oStr (a : D) (_ : S) : Option D := (strOf a).map .str
theorem cd_str : CallD T X (rD (ct T X)) (rD (ct T X)) (.type "str") oStr :=
  ⟨_, CallR.or call_str_int SkE.call_str_str, fun g s H x a c Q sr ra e h => by
    match a, ra, e with
    | .int i, ra, e =>
      cases ra
      unfold oStr strOf at e
      dsimp only at e
      by_cases z : i.natAbs.log2 < 1920
      · rw [if_pos z] at e; cases e; exact .inl ⟨i, rfl, z, h.here sr (.str _)⟩
      · rw [if_neg z] at e; cases e
    | .str i, ra, e => cases ra; cases e; exact .inr ⟨i, rfl, h.here sr (.str _)⟩⟩
def oInt : D → S → Option D
  | .int i, _ => some (.int i)
  | .bool b, _ => some (.int (if b then 1 else 0))
  | .str x, _ => if x.length ≤ 640 then (PySem.intText? x).map .int else none
  | _, _ => none
theorem cd_int : CallD T X (rD (ct T X)) (rD (ct T X)) (.type "int") oInt :=
  ⟨_, CallR.or call_int1 call_int_str, fun g s H x a c Q sr ra e h => by
    match a, ra, e with
    | .int i, ra, e => cases ra; cases e; exact .inl (.inl ⟨i, rfl, h.here sr (.int _)⟩)
    | .bool i, ra, e => cases ra; cases e; exact .inl (.inr ⟨i, rfl, h.here sr (.int _)⟩)
    | .str i, ra, e =>
      cases ra
      unfold oInt at e
      dsimp only at e
      by_cases z : i.length ≤ 640
      · rw [if_pos z] at e
        cases q : PySem.intText? i with
        | none => rw [q] at e; cases e
        | some n => rw [q] at e; cases e; exact .inr ⟨i, n, rfl, q, z, h.here sr (.int _)⟩
      · rw [if_neg z] at e; cases e⟩
/-! isinstance(x, T), T a built-in class -/
def kindD : D → String
  | .none => "NoneType"
  | .bool _ => "bool"
  | .int _ => "int"
  | .str _ => "str"
  | .list _ => "list"
  | .tuple _ => "tuple"
  | .dict _ => "dict"
def plainK : D → Bool
  | .dict [] => true
  | .dict _ => false
  | _ => true
def oIsi (t : String) (a : D) (_ : S) : Option D := if plainK a = true then (kitB (kindD a) t).map .bool else none
theorem den_ty {C : Ct} {g : Gh} {s : S} {H : Hp} {v : V} {d : D} (sr : SR C g s H) (h : DenG C g v d) (p : plainK d = true) : TyX C.K H v (.type (kindD d)) := by
  cases h with
  | non => exact .base .non
  | bl b => exact .base (.bl b)
  | int i => exact .base (.int i)
  | str i => exact .base (.str i)
  | lst t l => exact .base (.lst (sr.sub _ _ t))
  | sc t l => cases p
  | tup t l =>
    rcases t with (t | ⟨o, t⟩) | ⟨o, its, n, t, c, _⟩
    · exact .base (.tup (sr.sub _ _ t))
    · exact .fTuple (sr.sub _ _ t)
    · exact .kTuple t c
  | fn h => cases p
  | mu h => cases p
  | ed h => exact .base (.dK (sr.sub _ _ h))
theorem de_isi {t : Str} {ts : String} {m : M D} {e : Expr} {p p2 pos : Pos} (hg : Gl X "isinstance") (hm : X.mg "isinstance" = none) (hgt : Gl X t) (hmt : X.mg t = none) (hvt : bootBuiltins t = some (.type ts)) (ha : DE T X W e m)
    (hn : t ≠ "__name__" := by decide) (hdb : (t == ("__debug__" : Str)) = false := by decide) (hs : starEach [e, .Name t p2] X.env = (false, eval e X.env) :: starEach [.Name t p2] X.env := by rfl) : DE T X W (.Call (.Name "isinstance" p) [e, .Name t p2] [] pos) (mOp1 (oIsi ts) m) := by
  have hb : PE X (.Name t p2) (tC (.ty ts)) := pe_bltn hgt hmt hvt rfl hn hdb
  refine pe_imp (pe_callB call_isi hg hm (by decide +kernel) (pa_cons ha (pa_cons hb pa_nil (by rfl)) hs) (by decide) (by decide) hs (by rfl)) fun σ H Q q => ?_
  refine op1_core (r := fun x H Q => rIsi X.K [x, .ty ts] H Q) (fun g s H x a c Q sr ra e h => ?_) σ H Q q
  unfold oIsi at e
  by_cases z : plainK a = true
  · rw [if_pos z] at e
    cases k : kitB (kindD a) ts with
    | none => rw [k] at e; cases e
    | some b => rw [k] at e; cases e; exact ⟨_, _, _, _, b, rfl, .ty ts, den_ty sr ra z, kit_ty k, h.here sr (.bl _)⟩
  · rw [if_neg z] at e; cases e
end
end Dn

set_option Elab.async false
set_option linter.all false
set_option maxRecDepth 100000
set_option maxHeartbeats 4000000
namespace Dn
open PySem PySem.Spec PyProof.Rows L2
/-! ### lists of one's own -/
theorem nodup_at {l : List Addr} (h : l.Nodup) {i j : Nat} {a : Addr} (p : l[i]? = some a) (q : l[j]? = some a) : i = j := by
  obtain ⟨h1, e1⟩ := List.getElem?_eq_some_iff.mp p
  obtain ⟨h2, e2⟩ := List.getElem?_eq_some_iff.mp q
  exact (List.getElem_inj h).mp (e1.trans e2.symm)
section
variable {C : Ct} {W : WX} {B : Bs} {g g' : Gh} {H H' : Hp} {env : En} {s s' : S} {σ : L2.St} {E : Ends}
def Gh.re (g : Gh) (H : Hp) : Gh := ⟨g.F, g.am, fun a => ¬ Vac H a⟩
theorem SR.re (q : SR C g s H) : SR C (g.re H) s H := ⟨q.sub, q.len, q.nd, q.st, q.tab, fun _ h => h, q.nt⟩
theorem SR.back {s0 : S} (q : SR C g' s H') (t : Step (g.re H) H g' H') (q0 : SR C g s0 H) : SR C ⟨g'.F, g'.am, g.nd⟩ s H' := ⟨q.sub, q.len, q.nd, q.st, q.tab, fun a h z => q0.ndo a h (t.dm a z), q.nt⟩
theorem Step.back (t : Step (g.re H) H g' H') : Step g H ⟨g'.F, g'.am, g.nd⟩ H' := ⟨t.F, t.am, t.Fn, t.an, t.kp, t.dm, rfl⟩
theorem Rel.re (r : Rel C g env s σ H) : Rel C (g.re H) env s σ H := { r.toSR.re with slen := r.slen, sl := r.sl, ap := r.ap }
/-- the place i holds the new list at a -/
theorem RelS.setOw (r : RelS C B g env s σ H) (i : Nat) {a : Addr} {vs : List V} {ds : List D} (e : H a = some (.lst vs)) (f : g.F a = none) (m : a ∉ g.am) (l : DenGL C g vs ds) (fr : ∀ j, AdAt env σ j a → False) (h0 : Vac B.H0 a) :
    RelS C B g (env.set i (.ow ds)) s (σ.set i (some (.ref a))) H := by
  have ne : ∀ j : Nat, j ≠ i → (σ.set i (some (V.ref a)))[j]? = σ[j]? := fun j h => List.getElem?_set_ne (Ne.symm h)
  have ne' : ∀ j : Nat, j ≠ i → (env.set i (.ow ds))[j]? = env[j]? := fun j h => List.getElem?_set_ne (Ne.symm h)
  have at' : ∀ x, (env.set i (.ow ds))[i]? = some x → x = .ow ds ∧ i < env.length := fun x h => by
    by_cases hi : i < env.length
    · rw [List.getElem?_set_self hi] at h; exact ⟨(Option.some.inj h).symm, hi⟩
    · rw [List.getElem?_eq_none (by simpa using hi)] at h; cases h
  have ad : ∀ j b, AdAt (env.set i (.ow ds)) (σ.set i (some (.ref a))) j b → (j = i ∧ b = a) ∨ (j ≠ i ∧ AdAt env σ j b) := fun j b ⟨⟨es, h1⟩, h2⟩ => by
    by_cases q : j = i
    · subst q
      refine .inl ⟨rfl, ?_⟩
      have hi : j < env.length := h1.elim (fun h => (at' _ h).2) fun h => (at' _ h).2
      rw [List.getElem?_set_self (by rw [r.slen]; exact hi)] at h2
      cases h2
      rfl
    · rw [ne' j q] at h1; rw [ne j q] at h2; exact .inr ⟨q, ⟨es, h1⟩, h2⟩
  have toAd : ∀ {env : En} {σ : L2.St} {j b}, OwAt env σ j b → AdAt env σ j b := fun ⟨⟨es, h1⟩, h2⟩ => ⟨⟨es, .inl h1⟩, h2⟩
  have ow : ∀ j b, OwAt (env.set i (.ow ds)) (σ.set i (some (.ref a))) j b → (j = i ∧ b = a) ∨ (j ≠ i ∧ OwAt env σ j b) := fun j b h => by
    rcases ad j b (toAd h) with q | ⟨q, _⟩
    · exact .inl q
    · obtain ⟨⟨es, h1⟩, h2⟩ := h
      rw [ne' j q] at h1; rw [ne j q] at h2
      exact .inr ⟨q, ⟨es, h1⟩, h2⟩
  refine { r.toSR with slen := by rw [List.length_set, List.length_set]; exact r.slen, sl := fun j x h => ?_, ap := fun j k b h1 h2 => ?_, stp := r.stp, nw := fun j b h => ?_, fb := r.fb, fa := r.fa }
  · by_cases q : j = i
    · subst q
      obtain ⟨rfl, hi⟩ := at' _ h
      exact ⟨a, vs, List.getElem?_set_self (by rw [r.slen]; exact hi), e, f, m, l⟩
    · rw [ne' j q] at h
      have := r.sl j x h
      cases x with
      | un => trivial
      | rv => exact (ne j q).trans this
      | fz d => obtain ⟨v, a, b⟩ := this; exact ⟨v, by rw [ne j q]; exact a, b⟩
      | ow ds => obtain ⟨a, vs, b, c⟩ := this; exact ⟨a, vs, by rw [ne j q]; exact b, c⟩
      | sh ds => obtain ⟨a, vs, b, c⟩ := this; exact ⟨a, vs, by rw [ne j q]; exact b, c⟩
  · rcases ow j b h1 with ⟨rfl, rfl⟩ | ⟨q1, o1⟩
    · rcases ad k b h2 with ⟨rfl, _⟩ | ⟨q2, o2⟩
      · rfl
      · exact (fr k o2).elim
    · rcases ad k b h2 with ⟨rfl, rfl⟩ | ⟨q2, o2⟩
      · exact (fr j (toAd o1)).elim
      · exact r.ap j k b o1 o2
  · rcases ow j b h with ⟨_, rfl⟩ | ⟨_, o⟩
    · exact h0
    · exact r.nw j b o
theorem AdAt.there (r : Rel C g env s σ H) {j : Nat} {a : Addr} (h : AdAt env σ j a) : ∃ vs, H a = some (.lst vs) := by
  obtain ⟨⟨es, h1⟩, h2⟩ := h
  rcases h1 with h1 | h1
  · obtain ⟨a', vs, e, q, _⟩ := r.sl j _ h1
    rw [h2] at e; cases e
    exact ⟨vs, q⟩
  · obtain ⟨a', vs, e, _, q⟩ := r.sl j _ h1
    rw [h2] at e; cases e
    rcases q with q | q
    · exact ⟨vs, r.sub _ _ q⟩
    · exact ⟨vs, q.1⟩
/-- a list of one's own changes -/
theorem RelS.chOw (r : RelS C B g env s σ H) {i : Nat} {a : Addr} {ds0 : List D} (hi : env[i]? = some (.ow ds0)) (hs : σ[i]? = some (some (.ref a))) {vs : List V} {ds : List D} (l : DenGL C g vs ds) :
    RelS C B g (env.set i (.ow ds)) s σ (upd H a (.lst vs)) := by
  obtain ⟨a', vs0, e0, q, f, m, _⟩ := r.sl i _ hi
  rw [hs] at e0; cases e0
  have own : OwAt env σ i a := ⟨⟨ds0, hi⟩, hs⟩
  have sr := sr_upd (o := .lst vs) r.toSR q f m
  have hil : i < env.length := (List.getElem?_eq_some_iff.mp hi).1
  have ne' : ∀ j : Nat, j ≠ i → (env.set i (.ow ds))[j]? = env[j]? := fun j h => List.getElem?_set_ne (Ne.symm h)
  have ad : ∀ j b, AdAt (env.set i (.ow ds)) σ j b → AdAt env σ j b := fun j b ⟨⟨es, h1⟩, h2⟩ => by
    by_cases z : j = i
    · subst z; exact ⟨⟨ds0, .inl hi⟩, h2⟩
    · rw [ne' j z] at h1; exact ⟨⟨es, h1⟩, h2⟩
  have ow : ∀ j b, OwAt (env.set i (.ow ds)) σ j b → OwAt env σ j b := fun j b ⟨⟨es, h1⟩, h2⟩ => by
    by_cases z : j = i
    · subst z; exact ⟨⟨ds0, hi⟩, h2⟩
    · rw [ne' j z] at h1; exact ⟨⟨es, h1⟩, h2⟩
  refine { sr with slen := by rw [List.length_set]; exact r.slen, sl := fun j x h => ?_, ap := fun j k b h1 h2 => r.ap j k b (ow j b h1) (ad k b h2), stp := step_upd r.stp (r.nw i a own), nw := fun j b h => r.nw j b (ow j b h), fb := r.fb, fa := r.fa }
  by_cases z : j = i
  · subst z
    rw [List.getElem?_set_self hil] at h
    cases h
    exact ⟨a, vs, hs, upd_same, f, m, l⟩
  · rw [ne' j z] at h
    have := r.sl j x h
    have off : ∀ b, AdAt env σ j b → b ≠ a := fun b hb e => by
      subst e
      exact z (r.ap i j b own hb).symm
    cases x with
    | un => trivial
    | rv => exact this
    | fz d => exact this
    | ow es =>
      obtain ⟨b, ws, h1, h2, h3⟩ := this
      exact ⟨b, ws, h1, by rw [upd_ne (off b ⟨⟨es, .inl h⟩, h1⟩)]; exact h2, h3⟩
    | sh es =>
      obtain ⟨b, ws, h1, h2, h3⟩ := this
      refine ⟨b, ws, h1, h2, ?_⟩
      rcases h3 with h3 | ⟨h3, h4⟩
      · exact .inl h3
      · exact .inr ⟨by rw [upd_ne (off b ⟨⟨es, .inr h⟩, h1⟩)]; exact h3, h4⟩
/-- the store's n-th list changes -/
theorem RelS.chSt (r : RelS C B g env s σ H) {n : Nat} {a : Addr} {ds0 : List D} (hn : s[n]? = some ds0) (ha : g.am[n]? = some a) {vs : List V} {ds : List D} (l : DenGL C g vs ds) (h0 : Vac B.H0 a ∨ a ∈ B.g0.am) :
    RelS C B g env (s.set n ds) σ (upd H a (.lst vs)) := by
  obtain ⟨a', vs0, e0, q, f, _⟩ := r.st n _ hn
  rw [ha] at e0; cases e0
  have am : a ∈ g.am := List.mem_of_getElem? ha
  have off : ∀ b u, H b = some u → b ∉ g.am → b ≠ a := fun b u _ hb e => hb (by rw [e]; exact am)
  have hnl : n < s.length := (List.getElem?_eq_some_iff.mp hn).1
  have subs : Sub g.F (upd H a (.lst vs)) := fun b u e => by
    have : b ≠ a := fun z => by rw [z, f] at e; cases e
    rw [upd_ne this]; exact r.sub _ _ e
  refine { sub := subs, len := by rw [List.length_set]; exact r.len, nd := r.nd, st := fun k es h => ?_, tab := tabs_upd q r.tab, nt := r.nt, ndo := fun b k z => ?_, slen := r.slen, sl := fun j x h => ?_, ap := r.ap, stp := ?_, nw := r.nw, fb := r.fb, fa := r.fa }
  · by_cases z : k = n
    · subst z
      rw [List.getElem?_set_self hnl] at h
      cases h
      exact ⟨a, vs, ha, upd_same, f, l⟩
    · rw [List.getElem?_set_ne (Ne.symm z)] at h
      obtain ⟨b, ws, h1, h2, h3, h4⟩ := r.st k es h
      have : b ≠ a := fun e => z (nodup_at r.nd (show g.am[k]? = some a by rw [← e]; exact h1) ha)
      exact ⟨b, ws, h1, by rw [upd_ne this]; exact h2, h3, h4⟩
  · exact r.ndo b k (vac_upd lst_tbl z)
  · have := r.sl j x h
    cases x with
    | un => trivial
    | rv => exact this
    | fz d => exact this
    | ow es =>
      obtain ⟨b, ws, h1, h2, h3, h4, h5⟩ := this
      exact ⟨b, ws, h1, by rw [upd_ne (off b _ h2 h4)]; exact h2, h3, h4, h5⟩
    | sh es =>
      obtain ⟨b, ws, h1, h2, h3⟩ := this
      refine ⟨b, ws, h1, h2, ?_⟩
      rcases h3 with h3 | ⟨h3, h4, h5⟩
      · exact .inl h3
      · exact .inr ⟨by rw [upd_ne (off b _ h3 h5)]; exact h3, h4, h5⟩
  · refine { r.stp with kp := fun b u e nb t => ?_, dm := fun b e => ?_ }
    · have : b ≠ a := fun z => by
        rcases h0 with h0 | h0
        · exact h0.no (by rw [← z]; exact e) t
        · exact nb (by rw [z]; exact h0)
      rw [upd_ne this]; exact r.stp.kp b u e nb t
    · exact r.stp.dm b (vac_upd lst_tbl e)
end
abbrev mSetOw (i : Nat) (m : M (List D)) : Ms := mOf m fun ds env s => .nx (env.set i (.ow ds)) s
def mAppend (i : Nat) (m : M D) : Ms := fun env s => match env[i]? with
  | some (.ow _) => mOf m (fun d env s => match env[i]? with | some (.ow ds) => if ds.length < sizeLine then .nx (env.set i (.ow (ds ++ [d]))) s else .bad | _ => .bad) env s
  | _ => .bad
def mExtend (i : Nat) (m : M (Bool × List D)) : Ms := fun env s => match env[i]? with
  | some (.ow _) => mOf m (fun d env s => match env[i]? with | some (.ow ds) => if d.1 = false ∧ ds.length + d.2.length ≤ sizeLine then .nx (env.set i (.ow (ds ++ d.2))) s else .bad | _ => .bad) env s
  | _ => .bad
/-- x[j] = e: a list of one's own, or the store's -/
def stored (i : Nat) (d k : D) : Ms := fun env s => match k, env[i]? with
  | .int j, some (.ow ds) => (match ixN ds.length j with | some k => .nx (env.set i (.ow (ds.set k d))) s | none => .bad)
  | .int j, some (.fz (.dict [(.bool true, .int n)])) => if 0 ≤ n then (match s[n.toNat]? with | some ds => (match ixN ds.length j with | some k => .nx env (s.set n.toNat (ds.set k d)) | none => .bad) | none => .bad) else .bad
  | _, _ => .bad
def mayStore : Option Sl → Bool
  | some (.ow _) => true
  | some (.fz _) => true
  | _ => false
def mStore (i : Nat) (mj m : M D) : Ms := mOf m fun d env s => if mayStore env[i]? = true then mOf mj (fun k env s => stored i d k env s) env s else .bad
section
variable {T : Tb} {X : Cx} {W : WX} {B : Bs} {e : Expr} {pos : Pos} {i : Nat} {x : Str}
theorem ds_setOw {m : M (List D)} {pos' : Pos} {rp : Bool} (A : At T X W rp) (hi : X.N[i]? = some x) (hx : Loc X.env.scope x) (h : DL T X W (rOw (ct T X)) e m) (hs : swapsWith e (some (.Name x pos')) pos.line X.env = pure false := by rfl)
    (hf : X.fn x = true ∨ X.env.scope.names.lookup x = some .local := by first | exact .inl rfl | exact .inr rfl) : DS T X W B (.Assign [.Name x pos'] e pos) (mSetOw i m) :=
  ps_imp (ps_set A.nd hi hx h hs hf) fun E σ H ⟨g, env, s, r, q⟩ => by
    refine ⟨g.re H, env, s, r.toRel.re, ?_⟩
    unfold mSetOw mOf at q
    cases ev : m env s with
    | bad => rw [ev] at q; exact q.elim
    | exc y s' =>
      rw [ev] at q
      exact fun g' c dx H' t sr xr => q ⟨g'.F, g'.am, g.nd⟩ c dx σ H' (r.step t.back (sr.back t r.toSR)) xr
    | ok ds s' =>
      rw [ev] at q
      intro g' v H' t sr ro
      obtain ⟨a, vs, rfl, h1, h2, h3, h4, h5⟩ := ro
      have hn : Vac H a := by
        rw [t.nd] at h4
        exact Classical.byContradiction fun z => h4 z
      exact q _ _ H' ((r.step t.back (sr.back t r.toSR)).setOw i h1 h2 h3 h5 (fun j hj => by obtain ⟨ws, z⟩ := AdAt.there r.toRel hj; exact hn.no z lst_tbl) (r.stp.dm a hn))
theorem own_ty {K : PySem.W.Frag} {H : Hp} {a : Addr} {vs : List V} (h : H a = some (.lst vs)) : tyV K "list" (.ref a) H := .inl ⟨rfl, _, SqL.of h⟩
theorem ds_append {m : M D} {p1 p2 p3 : Pos} (hN : X.N[i]? = some x) (hv : Vis X.env.scope x) (h : DE T X W e m) (hd : (x == ("__debug__" : Str)) = false := by decide) (hcd : (x == ("__classdict__" : Str)) = false := by decide)
    (hs1 : starEach [e] X.env = (false, eval e X.env) :: starEach [] X.env := by rfl)
    (hfew : ((backTo p3 (starEach [e] X.env)).all (!·.1) && (backToKw p3 (keywordEach [] X.env)).all (·.1.isSome) && decide ([e].length + ([] : List Keyword).length + (if ([] : List Keyword).isEmpty = true then 0 else 1) < 30)) = true := by rfl) (hline : (p2.endLine == p3.line) = true := by rfl) (hs : swapsWith (.Call (.Attribute (.Name x p1) "append" p2) [e] [] p3) none pos.line X.env = pure false := by rfl) : DS T X W B (.Expr (.Call (.Attribute (.Name x p1) "append" p2) [e] [] p3) pos) (mAppend i m) :=
  ps_imp (ps_expr (pe_bm PySem.F.plainAttrs_list PySem.F.slot_list_append PySem.F.type_list_append mt_append (pe_var hN hv hd hcd) (pa_cons h pa_nil hs1) (hfew := hfew) (hline := hline) (hs := hs1)) hs) fun E σ H ⟨g, env, s, r, q⟩ => by
    unfold mAppend at q
    split at q
    · rename_i ds0 e0
      obtain ⟨a, vs, e1, h1, h2, h3, h4⟩ := r.sl i _ e0
      refine ⟨_, e1, own_ty h1, tG_of r q fun d s' g' v H' r' dn q => ?_⟩
      rw [e0] at q
      dsimp only at q
      obtain ⟨a', vs', e1', h1', h2', h3', h4'⟩ := r'.sl i _ e0
      rw [e1] at e1'; cases e1'
      by_cases z : ds0.length < sizeLine
      · rw [if_pos z] at q
        exact ⟨a, vs', v, rfl, rfl, h1', by rw [h4'.length]; exact z, q g' σ _ (r'.chOw e0 e1 (h4'.append (.one dn)))⟩
      · rw [if_neg z] at q; exact q.elim
    · exact q.elim
theorem ds_extend {m : M (Bool × List D)} {p1 p2 p3 : Pos} (hN : X.N[i]? = some x) (hv : Vis X.env.scope x) (h : DQ T X W e m) (hd : (x == ("__debug__" : Str)) = false := by decide) (hcd : (x == ("__classdict__" : Str)) = false := by decide)
    (hs1 : starEach [e] X.env = (false, eval e X.env) :: starEach [] X.env := by rfl)
    (hfew : ((backTo p3 (starEach [e] X.env)).all (!·.1) && (backToKw p3 (keywordEach [] X.env)).all (·.1.isSome) && decide ([e].length + ([] : List Keyword).length + (if ([] : List Keyword).isEmpty = true then 0 else 1) < 30)) = true := by rfl) (hline : (p2.endLine == p3.line) = true := by rfl) (hs : swapsWith (.Call (.Attribute (.Name x p1) "extend" p2) [e] [] p3) none pos.line X.env = pure false := by rfl) : DS T X W B (.Expr (.Call (.Attribute (.Name x p1) "extend" p2) [e] [] p3) pos) (mExtend i m) :=
  ps_imp (ps_expr (pe_bm PySem.F.plainAttrs_list PySem.F.slot_list_extend PySem.F.type_list_extend mt_extend (pe_var hN hv hd hcd) (pa_cons h pa_nil hs1) (hfew := hfew) (hline := hline) (hs := hs1)) hs) fun E σ H ⟨g, env, s, r, q⟩ => by
    unfold mExtend at q
    split at q
    · rename_i ds0 e0
      obtain ⟨a, vs, e1, h1, h2, h3, h4⟩ := r.sl i _ e0
      refine ⟨_, e1, own_ty h1, tG_of r q fun d s' g' v H' r' dn q => ?_⟩
      rw [e0] at q
      dsimp only at q
      obtain ⟨a', vs', e1', h1', h2', h3', h4'⟩ := r'.sl i _ e0
      rw [e1] at e1'; cases e1'
      by_cases z : d.1 = false ∧ ds0.length + d.2.length ≤ sizeLine
      · rw [if_pos z] at q
        obtain ⟨p, ws, rfl, l, k⟩ := dn.at r'.sub
        rcases k with ⟨b, k⟩ | ⟨b, k⟩
        · rw [z.1] at b; cases b
        · exact ⟨a, p, vs', ws, rfl, rfl, h1', k, by rw [h4'.length, l.length]; exact z.2, q g' σ _ (r'.chOw e0 e1 (h4'.append l))⟩
      · rw [if_neg z] at q; exact q.elim
    · exact q.elim
theorem ds_store {m mj : M D} {j : Expr} {p1 p2 : Pos} (h : DE T X W e m) (hj : DE T X W j mj) (hpg : ∀ t, PE X j t → PG X (.Subscript (.Name x p1) j p2) (gSub (tVar i) t rSetL))
    (hs : swapsWithSole [.Subscript (.Name x p1) j p2] e pos.line X.env = pure false := by rfl) (hw : swappedStores [.Subscript (.Name x p1) j p2] e X.env = pure none := by rfl) : DS T X W B (.Assign [.Subscript (.Name x p1) j p2] e pos) (mStore i mj m) :=
  ps_imp (ps_asg h (hpg _ hj) hs hw) fun E σ H ⟨g, env, s, r, q⟩ => by
    unfold mStore at q
    refine tG_of r q fun d s' g' v H' r' dn q => ?_
    have place : (∃ vv, σ[i]? = some (some vv)) ∧ post (ct T X) W B E (mOf mj (fun k env s => stored i d k env s) env s') := by
      by_cases z : mayStore env[i]? = true
      · rw [if_pos z] at q
        refine ⟨?_, q⟩
        cases ez : env[i]? with
        | none => rw [ez] at z; cases z
        | some sl =>
          cases sl with
          | ow ds => obtain ⟨a, vs, e1, _⟩ := r'.sl i _ ez; exact ⟨_, e1⟩
          | fz d => obtain ⟨v, e1, _⟩ := r'.sl i _ ez; exact ⟨_, e1⟩
          | un => rw [ez] at z; cases z
          | sh ds => rw [ez] at z; cases z
          | rv => rw [ez] at z; cases z
      · rw [if_neg z] at q; exact q.elim
    obtain ⟨⟨vv, hvv⟩, q⟩ := place
    refine ⟨vv, hvv, tG_ofS r' q fun k s2 g2 w H2 t2 r2 dk q => ?_⟩
    have dn2 := t2.den dn
    unfold stored at q
    split at q
    · rename_i j ds ez
      cases dk
      obtain ⟨a, vs, e1, h1, h2, h3, h4⟩ := r2.sl i _ ez
      rw [hvv] at e1; cases e1
      split at q
      · rename_i kk ek
        exact ⟨_, _, _, kk, rfl, rfl, h1, by rw [h4.length]; exact ek, q g2 σ _ (r2.chOw ez hvv (h4.set dn2 kk))⟩
      · exact q.elim
    · rename_i j n ez
      cases dk
      obtain ⟨v0, e1, h1⟩ := r2.sl i _ ez
      rw [hvv] at e1; cases e1
      by_cases z : 0 ≤ n
      · rw [if_pos z] at q
        split at q
        · rename_i ds eds
          split at q
          · rename_i kk ek
            obtain ⟨p, vs, rfl, ha, hH, hF, l⟩ := muD_at r2.toSR h1 eds
            refine ⟨_, _, _, kk, rfl, rfl, hH, by rw [l.length]; exact ek, q g2 σ _ (r2.chSt eds ha (l.set dn2 kk) ?_)⟩
            exact (r2.stp.an _ (List.mem_of_getElem? ha)).symm
          · exact q.elim
        · exact q.elim
      · rw [if_neg z] at q; exact q.elim
    · exact q.elim
end
end Dn

set_option Elab.async false
set_option linter.all false
set_option maxRecDepth 100000
set_option maxHeartbeats 4000000
namespace Dn
open PySem PySem.Spec PyProof.Rows L2
/-! ### what is walked -/
section
variable {T : Tb} {X : Cx} {W : WX} {tg e e2 : Expr} {p pos : Pos} {α : Type} {Ra : RR α}
theorem src_core {K : IK} {m : M α} {f : α → S → Option (List D)} {r : V → Hp → (It → Hp → Prop) → Prop} (hr : ∀ (g : Gh) (s : S) (H : Hp) (x : V) (a : α) (ds : List D) (Rk : It → Hp → Prop), SR (ct T X) g s H → Ra g H x a → f a s = some ds →
      (∀ g' J H', Step g H g' H' → SR (ct T X) g' s H' → K (ct T X) g' H' J ds → Rk J H') → r x H Rk) (σ : L2.St) (H : Hp) (Rk : It → Hp → Prop) (h : tI (ct T X) W K (mOp1 f m) σ H Rk) : tG (ct T X) W Ra m σ H fun v H1 => r v H1 Rk := by
  obtain ⟨g, env, s, r0, h⟩ := h
  refine ⟨g, env, s, r0, R.sat_mono (R.sat_bind h) (fun a s1 q g1 v H1 t sr ra => ?_) fun _ _ q => q⟩
  cases e : f a s1 with
  | none => rw [e] at q; exact q.elim
  | some ds =>
    rw [e] at q
    exact hr g1 s1 H1 v a ds Rk sr ra e fun g' J H' t' sr' k => q g' J H' (t.trans t') sr' k
theorem itF_list {C : Ct} {g : Gh} {H : Hp} {a : Addr} {vs : List V} {ds : List D} (h : SqL C.K g.F a vs) (l : DenGL C g vs ds) : ItF C g H (Itl C.K a) ds := fun i g1 H1 s1 fs fp sr => by
  have h1 : SqL C.K H1 a vs := sr.sub.sqL (fs.sqL h)
  refine ⟨fun lt => ?_, fun ge => ⟨vs, h1, by rw [l.length]; exact ge⟩, fun x H2 d e hy => ?_⟩
  · exact ⟨vs, vs[i]'(by rw [l.length]; exact lt), h1, List.getElem?_eq_getElem _⟩
  · obtain ⟨rfl, q⟩ := hy
    obtain ⟨v, e1, dn⟩ := l.get' e
    have := q vs h1
    rw [e1] at this
    cases this
    exact ⟨g1, .refl _ _, sr, dn.mono fs fp⟩
theorem itF_tup {C : Ct} {g : Gh} {H : Hp} {a : Addr} {vs : List V} {ds : List D} (h : SqT C.K g.F a vs) (l : DenGL C g vs ds) : ItF C g H (Itt C.K a) ds := fun i g1 H1 s1 fs fp sr => by
  have h1 : SqT C.K H1 a vs := sr.sub.sqT (fs.sqT h)
  refine ⟨fun lt => ?_, fun ge => ⟨vs, h1, by rw [l.length]; exact ge⟩, fun x H2 d e hy => ?_⟩
  · exact ⟨vs, vs[i]'(by rw [l.length]; exact lt), h1, List.getElem?_eq_getElem _⟩
  · obtain ⟨rfl, q⟩ := hy
    obtain ⟨v, e1, dn⟩ := l.get' e
    have := q vs h1
    rw [e1] at this
    cases this
    exact ⟨g1, .refl _ _, sr, dn.mono fs fp⟩
/-- a list of one's own, while nothing is stored -/
theorem itS_own {C : Ct} {g : Gh} {H : Hp} {a : Addr} {vs : List V} {ds : List D} (h : H a = some (.lst vs)) (n : a ∉ g.am) (l : DenGL C g vs ds) : ItS C g H (Itl C.K a) ds := fun i g1 H1 s1 t sr => by
  have h1 : SqL C.K H1 a vs := .inl (.inl (t.kp _ _ h n lst_tbl))
  refine ⟨fun lt => ?_, fun ge => ⟨vs, h1, by rw [l.length]; exact ge⟩, fun x H2 d e hy => ?_⟩
  · exact ⟨vs, vs[i]'(by rw [l.length]; exact lt), h1, List.getElem?_eq_getElem _⟩
  · obtain ⟨rfl, q⟩ := hy
    obtain ⟨v, e1, dn⟩ := l.get' e
    have := q vs h1
    rw [e1] at this
    cases this
    exact ⟨g1, .refl _ _, sr, t.den dn⟩
def signsD (z : Str) : List D := z.cps.toList.map fun c => .str ⟨#[c]⟩
theorem itF_str {C : Ct} {g : Gh} {H : Hp} (z : Str) : ItF C g H (Its z) (signsD z) := fun i g1 H1 s1 fs fp sr => by
  refine ⟨fun lt => (show i < z.cps.size by simpa [signsD] using lt), fun ge => (show z.cps.size ≤ i by simpa [signsD] using ge), fun x H2 d e hy => ?_⟩
  obtain ⟨rfl, c, e1, rfl⟩ := hy
  refine ⟨g1, .refl _ _, sr, ?_⟩
  have : (signsD z)[i]? = some (.str ⟨#[c]⟩) := by
    unfold signsD
    rw [List.getElem?_map, Array.getElem?_toList, e1]
    rfl
  rw [this] at e
  cases e
  exact .str _
def rangeD (lo : Int) (n : Nat) : List D := (List.range n).map fun (i : Nat) => .int (lo + (i : Int))
theorem itF_range {C : Ct} {g : Gh} {H : Hp} (lo : Int) (n : Nat) : ItF C g H (Itr lo n) (rangeD lo n) := fun i g1 H1 s1 fs fp sr => by
  have hl : (rangeD lo n).length = n := by simp [rangeD]
  refine ⟨fun lt => by rw [hl] at lt; exact lt, fun ge => by rw [hl] at ge; exact ge, fun x H2 d e hy => ?_⟩
  obtain ⟨rfl, rfl⟩ := hy
  refine ⟨g1, .refl _ _, sr, ?_⟩
  have hi : i < n := by rw [← hl]; exact (List.getElem?_eq_some_iff.mp e).1
  have : (rangeD lo n)[i]? = some (.int (lo + (i : Int))) := by
    unfold rangeD
    rw [List.getElem?_map, List.getElem?_range hi]
    rfl
  rw [this] at e
  cases e
  exact .int _
def oRng1 : D → S → Option (List D)
  | .int j, _ => if -(2 ^ 62) ≤ j ∧ j < 2 ^ 62 then some (rangeD 0 j.toNat) else none
  | _, _ => none
def oRng2 : D → D → S → Option (List D)
  | .int i, .int j, _ => if -(2 ^ 62) ≤ i ∧ i < 2 ^ 62 ∧ -(2 ^ 62) ≤ j ∧ j < 2 ^ 62 then some (rangeD i (j - i).toNat) else none
  | _, _, _ => none
theorem di_range1 {m : M D} (hg : Gl X "range") (hm : X.mg "range" = none) (h : DE T X W e m) (hs : starEach [e] X.env = [(false, eval e X.env)] := by rfl) (hs' : starEach [e] X.env = (false, eval e X.env) :: starEach [] X.env := by rfl) : DI T X W tg (.Call (.Name "range" p) [e] [] pos) (mOp1 oRng1 m) :=
  pi_imp (pi_range1 hg hm (pa_cons h pa_nil hs') hs) fun σ H Rk q => src_core (Ra := rD (ct T X)) (K := ItF) (r := fun x H R => ∃ j : Int, [x] = [.int j] ∧ -(2 ^ 62) ≤ j ∧ j < 2 ^ 62 ∧ R (Itr 0 j.toNat) H) (fun g s H x a ds Rk sr ra ef k => by
    match a, ra, ef with
    | .int j, ra, ef =>
      cases ra
      obtain ⟨z, rfl⟩ := iteS ef
      exact ⟨j, rfl, z.1, z.2, k g _ H (.refl _ _) sr (itF_range 0 _)⟩) σ H Rk q
theorem tI_bin {K : IK} {β : Type} {Rb : RR β} {ma : M α} {mb : M β} {f : α → β → S → Option (List D)} {r : V → V → Hp → (It → Hp → Prop) → Prop} (s1 : Stays Ra) (hr : ∀ (g : Gh) (s : S) (H : Hp) (x y : V) (a : α) (b : β) (ds : List D) (Rk : It → Hp → Prop), SR (ct T X) g s H → Ra g H x a → Rb g H y b → f a b s = some ds →
      (∀ g' J H', Step g H g' H' → SR (ct T X) g' s H' → K (ct T X) g' H' J ds → Rk J H') → r x y H Rk) (σ : L2.St) (H : Hp) (Rk : It → Hp → Prop) (h : tI (ct T X) W K (mBin f ma mb) σ H Rk) : tG (ct T X) W Ra ma σ H fun v H1 => tG (ct T X) W Rb mb σ H1 fun w H2 => r v w H2 Rk := by
  obtain ⟨g, env, s, r0, h⟩ := h
  refine ⟨g, env, s, r0, R.sat_mono (R.sat_bind h) (fun a s1' q g1 v H1 t sr ra => ?_) fun _ _ q => q⟩
  refine ⟨g1, env, s1', r0.step t sr, R.sat_mono (R.sat_bind q) (fun b s2 q g2 w H2 t2 sr2 rb => ?_) fun _ _ => PX.step t⟩
  cases e : f a b s2 with
  | none => rw [e] at q; exact q.elim
  | some ds =>
    rw [e] at q
    exact hr g2 s2 H2 v w a b ds Rk sr2 (s1 _ _ _ _ _ _ t2 ra) rb e fun g' J H' t' sr' k => q g' J H' ((t.trans t2).trans t') sr' k
theorem di_range2 {m m2 : M D} (hg : Gl X "range") (hm : X.mg "range" = none) (h : DE T X W e m) (h2 : DE T X W e2 m2) (hs : starEach [e, e2] X.env = [(false, eval e X.env), (false, eval e2 X.env)] := by rfl) (hs2 : starEach [e2] X.env = [(false, eval e2 X.env)] := by rfl)
    (hs' : starEach [e, e2] X.env = (false, eval e X.env) :: starEach [e2] X.env := by rfl) (hs2' : starEach [e2] X.env = (false, eval e2 X.env) :: starEach [] X.env := by rfl) : DI T X W tg (.Call (.Name "range" p) [e, e2] [] pos) (mBin oRng2 m m2) :=
  pi_imp (pi_range2 hg hm (pa_cons h (pa_cons h2 pa_nil hs2') hs') hs hs2) fun σ H Rk q => tI_bin (Ra := rD (ct T X)) (Rb := rD (ct T X)) (K := ItF) (r := fun x y H R => ∃ i j : Int, [x, y] = [.int i, .int j] ∧ (-(2 ^ 62) ≤ i ∧ i < 2 ^ 62 ∧ -(2 ^ 62) ≤ j ∧ j < 2 ^ 62) ∧ R (Itr i (j - i).toNat) H) (stays_D _) (fun g s H x y a b ds Rk sr ra rb ef k => by
    match a, b, ra, rb, ef with
    | .int i, .int j, ra, rb, ef =>
      cases ra; cases rb
      obtain ⟨z, rfl⟩ := iteS ef
      exact ⟨i, j, rfl, z, k g _ H (.refl _ _) sr (itF_range i _)⟩) σ H Rk q
/-- a list, a tuple, a text -/
def rAnyI (K : PySem.W.Frag) (x : V) (H : Hp) (R : It → Hp → Prop) : Prop :=
  (∃ a xs, x = .ref a ∧ SqL K H a xs ∧ R (Itl K a) H) ∨ (∃ a xs, x = .ref a ∧ SqT K H a xs ∧ R (Itt K a) H) ∨ ∃ z, x = .str z ∧ R (Its z) H
theorem pi_anyI {te : TE} (h : PE X e te) : PI X tg e (fun σ H R => te σ H fun x H1 => rAnyI X.K x H1 R) := by
  refine ⟨fun pins s σ H R I q => thn (h.run pins s σ H _ I q) fun v s1 hh => ?_⟩
  obtain ⟨x, H1, I1, r1, q1⟩ := hh
  have new : ∀ (o : Obj) (J : It) (tn : Nat → Heap → Prop), Turn X.prog X.w X.K tg J [s1.heap.objs.size] s1.heap.objs.size tn → tn 0 (s1.heap.push o) → R J H1 → PIE X pins σ tg R (.ref s1.heap.objs.size) { s1 with heap := s1.heap.push o } := fun o J tn T1 t0 hR =>
    ⟨s1.heap.objs.size, [s1.heap.objs.size], tn, J, H1, rfl, I1.kept (t' := s1.toks) fun b ob eb => Heap.get?_push_of_some _ eb, T1, t0, fun b hb => by
      obtain rfl : b = s1.heap.objs.size := by simpa using hb
      exact I1.fpOk (Nat.le_refl _) (I1.hok.fresh (Nat.le_refl _)), hR⟩
  rcases q1 with ⟨a, xs, rfl, hq, hR⟩ | ⟨a, xs, rfl, hq, hR⟩ | ⟨z, rfl, hR⟩
  · cases r1
    obtain ⟨its, _, pl, _⟩ := I1.list hq
    exact wpAny_pyIter_list pl.isList (new _ _ _ (turn_list a _) ⟨_, Heap.get?_push_size _ rfl, rfl, rfl⟩ hR)
  · cases r1
    obtain ⟨its, _, pt, _⟩ := I1.tuple hq
    exact wpAny_pyIter_tuple (show s1.heap.IsTuple a its.toArray from pt) (new _ _ _ (turn_tuple a _) ⟨_, Heap.get?_push_size _ rfl, rfl, rfl⟩ hR)
  · obtain ⟨t, rfl⟩ := r1
    cases hz : z.cps.all (· < 128)
    · exact wpAny_pyIter_wide hz (new _ _ _ (turn_str _ z t "str_iterator" (.inr rfl)) ⟨_, Heap.get?_push_size _ rfl, rfl, rfl⟩ hR)
    · exact wpAny_pyIter_ascii hz (new _ _ _ (turn_str _ z t "str_ascii_iterator" (.inl rfl)) ⟨_, Heap.get?_push_size _ rfl, rfl, rfl⟩ hR)
def oItems : D → S → Option (List D)
  | .list ds, _ => some ds
  | .tuple ds, _ => some ds
  | .str z, _ => some (signsD z)
  | .dict [(.int 0, .list ds)], _ => some ds
  | _, _ => none
theorem di_any {m : M D} (h : DE T X W e m) : DI T X W tg e (mOp1 oItems m) :=
  pi_imp (pi_anyI h) fun σ H Rk q => src_core (Ra := rD (ct T X)) (K := ItF) (r := rAnyI X.K) (fun g s H x a ds Rk sr ra ef k => by
    unfold oItems at ef
    split at ef
    · cases ef
      cases ra with
      | lst t l => exact .inl ⟨_, _, rfl, .inl (.inl (sr.sub _ _ t)), k g _ H (.refl _ _) sr (itF_list (.inl (.inl t)) l)⟩
    · cases ef
      cases ra with
      | tup t l => exact .inr (.inl ⟨_, _, rfl, sr.sub.sqT t, k g _ H (.refl _ _) sr (itF_tup t l)⟩)
    · cases ef
      cases ra
      exact .inr (.inr ⟨_, rfl, k g _ H (.refl _ _) sr (itF_str _)⟩)
    · cases ef
      cases ra with
      | sc t l => exact .inl ⟨_, _, rfl, sr.sub.sqL t, k g _ H (.refl _ _) sr (itF_list t l)⟩
    · cases ef) σ H Rk q
def oItemsQ (a : Bool × List D) (_ : S) : Option (List D) := some a.2
theorem dj_own {m : M (Bool × List D)} (h : DQ T X W e m) : DJ T X W tg e (mOp1 oItemsQ m) :=
  pi_imp (pi_anyI h) fun σ H Rk q => src_core (Ra := rQ (ct T X)) (K := ItS) (r := rAnyI X.K) (fun g s H x a ds Rk sr ra ef k => by
    cases ef
    obtain ⟨p, vs, rfl, l, q⟩ := ra
    rcases q with ⟨_, q⟩ | ⟨_, q | ⟨q, n⟩⟩
    · exact .inr (.inl ⟨_, _, rfl, sr.sub.sqT q, k g _ H (.refl _ _) sr (itF_tup q l).toS⟩)
    · exact .inl ⟨_, _, rfl, .inl (.inl (sr.sub _ _ q)), k g _ H (.refl _ _) sr (itF_list (.inl (.inl q)) l).toS⟩
    · exact .inl ⟨_, _, rfl, .inl (.inl q), k g _ H (.refl _ _) sr (itS_own q n l)⟩) σ H Rk q
/-! zip of two lists, of two tuples -/
def zipD (xs ys : List D) : List D := List.zipWith (fun a b => .tuple [a, b]) xs ys
theorem zipD_get {xs ys : List D} {i : Nat} {d : D} (h : (zipD xs ys)[i]? = some d) : ∃ a b, xs[i]? = some a ∧ ys[i]? = some b ∧ d = .tuple [a, b] := by
  unfold zipD at h
  rw [List.getElem?_zipWith] at h
  cases e1 : xs[i]? with
  | none => rw [e1] at h; cases h
  | some a =>
    cases e2 : ys[i]? with
    | none => rw [e1, e2] at h; cases h
    | some b => rw [e1, e2] at h; cases h; exact ⟨a, b, rfl, rfl, rfl⟩
theorem itF_pair {C : Ct} {g : Gh} {H : Hp} {J : It} {xs ys : List D} {vs ws : List V} (l : DenGL C g vs xs) (l2 : DenGL C g ws ys)
    (go : ∀ (i : Nat) g1 H1 (s1 : S), Sub g.F g1.F → SR C g1 s1 H1 → ∀ x y, vs[i]? = some x → ws[i]? = some y → J.go i H1) (stop : ∀ (i : Nat) g1 H1 (s1 : S), Sub g.F g1.F → SR C g1 s1 H1 → (vs.length ≤ i ∨ ws.length ≤ i) → J.stop i H1)
    (yl : ∀ (i : Nat) g1 H1 (s1 : S), Sub g.F g1.F → SR C g1 s1 H1 → ∀ v H2, J.yld i H1 v H2 → ∃ T x y, v = .ref T ∧ H1 T = none ∧ H2 = upd H1 T (.tup [x, y]) ∧ vs[i]? = some x ∧ ws[i]? = some y) : ItF C g H J (zipD xs ys) := fun i g1 H1 s1 fs fp sr => by
  have hl : (zipD xs ys).length = min xs.length ys.length := by unfold zipD; rw [List.length_zipWith]
  have e1 := l.length
  have e2 := l2.length
  refine ⟨fun lt => ?_, fun ge => stop i g1 H1 s1 fs sr (by rw [hl] at ge; omega), fun v H2 d e hy => ?_⟩
  · rw [hl] at lt
    exact go i g1 H1 s1 fs sr _ _ (List.getElem?_eq_getElem (by omega)) (List.getElem?_eq_getElem (by omega))
  · obtain ⟨Tn, x, y, rfl, nT, rfl, hx, hy⟩ := yl i g1 H1 s1 fs sr v H2 hy
    obtain ⟨a, b, ha, hb, rfl⟩ := zipD_get e
    obtain ⟨x', ex, dx⟩ := l.get' ha
    obtain ⟨y', ey, dy⟩ := l2.get' hb
    rw [hx] at ex; cases ex
    rw [hy] at ey; cases ey
    exact ⟨_, step_new sr nT, sr_new sr nT, .tup (.inl (.inl upd_same)) (.cons ((dx.mono fs fp).mono (sub_new sr nT) (.refl _)) (.cons ((dy.mono fs fp).mono (sub_new sr nT) (.refl _)) .nil))⟩
def oZip (a b : Bool × List D) (_ : S) : Option (List D) := if a.1 = b.1 then some (zipD a.2 b.2) else none
/-- frozen operands alone -/
def rQF (C : Ct) : RR (Bool × List D) := fun g _ v a => ∃ p vs, v = .ref p ∧ DenGL C g vs a.2 ∧ ((a.1 = true ∧ SqT C.K g.F p vs) ∨ (a.1 = false ∧ g.F p = some (.lst vs)))
theorem stays_QF (C : Ct) : Stays (rQF C) := fun g H g' H' v a t h => by
  obtain ⟨p, vs, e, l, q⟩ := h
  refine ⟨p, vs, e, t.denL l, ?_⟩
  rcases q with ⟨b, q⟩ | ⟨b, q⟩
  · exact .inl ⟨b, t.F.sqT q⟩
  · exact .inr ⟨b, t.F _ _ q⟩
abbrev DF (T : Tb) (X : Cx) (W : WX) (e : Expr) (m : M (Bool × List D)) : Prop := PE X e (tG (ct T X) W (rQF (ct T X)) m)
theorem df_of {m : M D} (h : DE T X W e m) : DF T X W e (mQ m) := by
  refine pe_imp h fun σ H Q q => ?_
  obtain ⟨g, env, s, r, h⟩ := q
  refine ⟨g, env, s, r, R.sat_mono (R.sat_bind h) (fun d s' q g' v H' t sr dn => ?_) fun _ _ q => q⟩
  match d, dn, q with
  | .list ds, dn, q =>
    cases dn with
    | lst k l => exact q g' _ H' t sr ⟨_, _, rfl, l, .inr ⟨rfl, k⟩⟩
  | .tuple ds, dn, q =>
    cases dn with
    | tup k l => exact q g' _ H' t sr ⟨_, _, rfl, l, .inl ⟨rfl, k⟩⟩
theorem di_zip {m m2 : M (Bool × List D)} {elts : List Expr} {kk : Nat} {tpos : Pos} (hg : Gl X "zip") (hm : X.mg "zip" = none) (h : DF T X W e m) (h2 : DF T X W e2 m2) (hs : starEach [e, e2] X.env = (false, eval e X.env) :: starEach [e2] X.env := by rfl)
    (hs2 : starEach [e2] X.env = (false, eval e2 X.env) :: starEach [] X.env := by rfl) (hpl : (backTo pos (starEach [e2] X.env)).any (·.1) = false := by rfl) : DI T X W (.Tuple elts kk tpos) (.Call (.Name "zip" p) [e, e2] [] pos) (mBin oZip m m2) :=
  pi_imp (RZ.pi_zipA hg hm (pa_cons h (pa_cons h2 pa_nil hs2) hs) hs hpl) fun σ H Rk q => tI_bin (Ra := rQF (ct T X)) (Rb := rQF (ct T X)) (K := ItF)
    (r := fun x y H1 R => ∃ a b xs ys, [x, y] = [V.ref a, V.ref b] ∧ ((SqL X.K H1 a xs ∧ SqL X.K H1 b ys ∧ R (Itz X.K a b) H1) ∨ (SqT X.K H1 a xs ∧ SqT X.K H1 b ys ∧ R (RZ.ItzT X.K a b) H1))) (stays_QF _) (fun g s H x y a b ds Rk sr ra rb ef k => by
    unfold oZip at ef
    obtain ⟨z, rfl⟩ := iteS ef
    obtain ⟨pa, vs, rfl, l, q⟩ := ra
    obtain ⟨pb, ws, rfl, l2, q2⟩ := rb
    rcases q with ⟨b1, q⟩ | ⟨b1, q⟩ <;> rcases q2 with ⟨b2, q2⟩ | ⟨b2, q2⟩
    · refine ⟨_, _, vs, ws, rfl, .inr ⟨sr.sub.sqT q, sr.sub.sqT q2, k g _ H (.refl _ _) sr (itF_pair l l2 (fun i g1 H1 s1 fs sr1 x y hx hy => ?_) (fun i g1 H1 s1 fs sr1 ho => ?_) fun i g1 H1 s1 fs sr1 v H2 hy => ?_)⟩⟩
      · exact ⟨_, _, x, y, sr1.sub.sqT (fs.sqT q), sr1.sub.sqT (fs.sqT q2), hx, hy⟩
      · exact ⟨_, _, sr1.sub.sqT (fs.sqT q), sr1.sub.sqT (fs.sqT q2), ho⟩
      · obtain ⟨Tn, x, y, e1, e2, e3, h1, h2⟩ := hy
        exact ⟨Tn, x, y, e1, e2, e3, h1 _ (sr1.sub.sqT (fs.sqT q)), h2 _ (sr1.sub.sqT (fs.sqT q2))⟩
    · rw [b1, b2] at z; cases z
    · rw [b1, b2] at z; cases z
    · refine ⟨_, _, vs, ws, rfl, .inl ⟨.inl (.inl (sr.sub _ _ q)), .inl (.inl (sr.sub _ _ q2)), k g _ H (.refl _ _) sr (itF_pair l l2 (fun i g1 H1 s1 fs sr1 x y hx hy => ?_) (fun i g1 H1 s1 fs sr1 ho => ?_) fun i g1 H1 s1 fs sr1 v H2 hy => ?_)⟩⟩
      · exact ⟨_, _, x, y, .inl (.inl (sr1.sub _ _ (fs _ _ q))), .inl (.inl (sr1.sub _ _ (fs _ _ q2))), hx, hy⟩
      · exact ⟨_, _, .inl (.inl (sr1.sub _ _ (fs _ _ q))), .inl (.inl (sr1.sub _ _ (fs _ _ q2))), ho⟩
      · obtain ⟨Tn, x, y, e1, e2, e3, h1, h2⟩ := hy
        exact ⟨Tn, x, y, e1, e2, e3, h1 _ (.inl (.inl (sr1.sub _ _ (fs _ _ q)))), h2 _ (.inl (.inl (sr1.sub _ _ (fs _ _ q2))))⟩) σ H Rk q
end
/-! ### raise X() -/
section
variable {T : Tb} {X : Cx} {W : WX} {B : Bs} {x : Str} {C : Addr} {p pos pos' : Pos}
/-- what is known of a class of errors without a maker of its own -/
structure ErrC (K : PySem.W.Frag) (mg : Str → Option Value) (x : Str) (C : Addr) : Prop where
  g : mg x = some (.ref C)
  ex : PySem.W.excIn K C [.type "ValueError", .type "Exception", .type "BaseException", .type "object"] "ValueError.__new__" = true
  kp : PySem.W.keepIn K (.ref C) = true
  be : PySem.W.subIn K (.ref C) (.type "BaseException") = some true
  ty : PySem.W.typeIn K (.ref C) = some (.type "type")
theorem pmk_none (c : ErrC X.K X.mg x C) (hg : Gl X x) (hdb : (x == ("__debug__" : Str)) = false := by decide) : PMk X (.Call (.Name x p) [] [] pos) (fun _ H Q => Q (.ref C) none H) := by
  intro pins s σ H Q I h
  refine wpAny_Call_Name_kw (ld_glob I hg c.g ?_ hdb)
  refine PySem.W.callWith_K0 I.kIn c.kp ?_
  obtain ⟨bm, N, nm, qn, bs, hdct, sn, sub, ab, col, dd, k0, k1, k2, k3, k5, mN, hC, hN, hni, OT⟩ := exc_obj I.kIn c.ex
  exact wpAny_call_exc_subT PySem.F.excBase_ValueError OT hC hN hni (fun h' e hm => mk_of I hm (raises_own c.be c.ty) h (I.hok.gone hm.new)) (Nat.zero_le _)
def mRaise (x : Ex) : Ms := fun env s => .exc x env s
theorem ds_raise {rp : Bool} (A : At T X W rp) (hc : X.calm = true) (c : ErrC X.K X.mg x C) (hg : Gl X x) (hdb : (x == ("__debug__" : Str)) = false := by decide) : DS T X W B (.Raise (some (.Call (.Name x p) [] [] pos)) none pos') (mRaise ⟨x, []⟩) :=
  ps_imp (ps_raise hc A.tk (pmk_none c hg hdb)) fun E σ H ⟨g, env, s, r, q⟩ => q g _ _ σ H r ⟨C, rfl, c.g, .inl ⟨rfl, rfl⟩⟩
/-! ### repr -/
def oRepr (d : D) (_ : S) : Option D := if d.hasDict = false ∧ d.showable = true ∧ d.depth ≤ 60 ∧ d.shown.length ≤ sizeLine then some (.str d.shown) else none
theorem cd_repr (A : At T X W true) : CallD T X (rD (ct T X)) (rD (ct T X)) (.builtin "repr") oRepr := by
  refine ⟨fun xs H Q => ∃ x d, xs = [x] ∧ Dp X.K H x d ∧ d.hasDict = false ∧ d.showable = true ∧ d.depth ≤ 60 ∧ d.shown.length ≤ sizeLine ∧ Q (.str d.shown) H, ?_, fun g s H x a c Q sr ra e h => ?_⟩
  · intro pins s σ H xs us Q I r h
    obtain ⟨x, d, rfl, dp, h1, h2, h3, h4, q⟩ := h
    obtain ⟨u, rfl, ru⟩ := vals1 r
    have un := A.un
    have cont : ∀ {a : Addr}, u = .ref a → wpAny (model X.prog X.w) X.A (call (.builtin "repr") [u]) (EP X pins σ Q) X.xe s := fun {a} ea => by
      subst ea
      obtain ⟨as, rd⟩ := Dp.reads I d x _ dp ru
      exact repr_of_reads' rd h2 (fun z => by rw [h1] at z; cases z) (A.gd rfl) (by omega) (fun _ _ z => z) (fun h' u tk hk => ⟨.str d.shown, H, I.kept (t' := tk) hk, ⟨u, rfl⟩, q⟩) h4
    cases dp with
    | non =>
      cases ru
      exact PySem.P.repr_of_none ⟨.str _, H, I.tok _, ⟨_, rfl⟩, q⟩
    | bl b =>
      cases ru
      exact PySem.P.repr_of_bool ⟨.str _, H, I.tok _, ⟨_, rfl⟩, q⟩
    | int i =>
      obtain ⟨t, rfl⟩ := ru
      exact PySem.P.repr_of_int (by simpa [PyData.showable] using h2) ⟨.str _, H, I.tok _, ⟨_, rfl⟩, q⟩
    | str z =>
      obtain ⟨t, rfl⟩ := ru
      exact PySem.P.repr_of_str ⟨.str _, H, I.tok _, ⟨_, rfl⟩, q⟩ (by simpa [PyData.shown] using h4)
    | lst t l => exact cont ru
    | tup t l => exact cont ru
  · unfold oRepr at e
    obtain ⟨z, rfl⟩ := iteS e
    exact ⟨x, a, rfl, Den.dp rfl sr.sub z.1 ra, z.1, z.2.1, z.2.2.1, z.2.2.2, h.here sr (.str _)⟩
end
end Dn

set_option Elab.async false
set_option linter.all false
set_option maxRecDepth 100000
set_option maxHeartbeats 4000000
/-! a thunk (lambda without parameters) handed to a def that calls it within a try -/
namespace Dn
open PySem PySem.Spec PyProof.Rows L2
/-- two readings of the same objects -/
structure Ct.Like (C C' : Ct) : Prop where
  K : C'.K = C.K
  mg : C'.mg = C.mg
  T : C'.T = C.T
theorem Ct.Like.symm {C C' : Ct} (l : C.Like C') : C'.Like C := ⟨l.K.symm, l.mg.symm, l.T.symm⟩
mutual
theorem Den.like {C C' : Ct} {F : Hp} {am : List Addr} (l : C.Like C') : ∀ {d : D} {v : V}, Den C F am v d → Den C' F am v d
  | _, _, .non => .non
  | _, _, .bl b => .bl b
  | _, _, .int i => .int i
  | _, _, .str x => .str x
  | _, _, .lst h t => .lst h (DenL.like l t)
  | _, _, .sc h t => .sc (by rw [l.K]; exact h) (DenL.like l t)
  | _, _, .tup h t => .tup (by rw [l.K]; exact h) (DenL.like l t)
  | _, _, .fn h => .fn (by rw [l.mg]; exact h)
  | _, _, .mu h => .mu h
  | _, _, .ed h => .ed h
theorem DenL.like {C C' : Ct} {F : Hp} {am : List Addr} (l : C.Like C') : ∀ {ds : List D} {vs : List V}, DenL C F am vs ds → DenL C' F am vs ds
  | _, _, .nil => .nil
  | _, _, .cons h t => .cons (Den.like l h) (DenL.like l t)
end
section
variable {C C' : Ct} {g g' : Gh} {s s' : S} {H H' : Hp} {env : En} {σ : L2.St}
theorem SR.like (l : C.Like C') (q : SR C g s H) : SR C' g s H :=
  { sub := q.sub, len := q.len, nd := q.nd, ndo := q.ndo, nt := q.nt, tab := by rw [l.T]; exact q.tab
    st := fun n ds e => by obtain ⟨a, vs, h1, h2, h3, h4⟩ := q.st n ds e; exact ⟨a, vs, h1, h2, h3, h4.like l⟩ }
theorem XR.like (l : C.Like C') {x : Ex} {c : Value} {dx : Option Addr} (h : XR C g H x c dx) : XR C' g H x c dx := by
  obtain ⟨a, e, m, r⟩ := h
  refine ⟨a, e, by rw [l.mg]; exact m, ?_⟩
  rcases r with r | ⟨d, fs, e1, e2, e3, e4, e5⟩
  · exact .inl r
  · exact .inr ⟨d, fs, e1, e2, e3, e4, DenL.like l e5⟩
theorem SlOk.like (l : C.Like C') {i : Nat} {x : Sl} (nr : x ≠ .rv) (h : SlOk C g σ H i x) : SlOk C' g σ H i x := by
  cases x with
  | un => trivial
  | rv => exact absurd rfl nr
  | fz d => obtain ⟨v, e, q⟩ := h; exact ⟨v, e, Den.like l q⟩
  | ow ds => obtain ⟨a, vs, e, q, n, m, k⟩ := h; exact ⟨a, vs, e, q, n, m, DenL.like l k⟩
  | sh ds => obtain ⟨a, vs, e, k, q⟩ := h; exact ⟨a, vs, e, DenL.like l k, q⟩
end
/-! ### the maker's side -/
abbrev Th := S → R D
abbrev Msd := Th → Ms
def ThOk (C : Ct) (g0 : Gh) (H0 : Hp) (th : Th) (tl : XK → Hp → VK → Prop) : Prop :=
  ∀ (g1 : Gh) (s1 : S) (H1 : Hp) (E : XK) (Q' : VK), Step g0 H0 g1 H1 → SR C g1 s1 H1 → (th s1).sat (Gv C (rD C) g1 H1 Q') (fun x s' => ∀ g' c dx H', Step g1 H1 g' H' → SR C g' s' H' → XR C g' H' x c dx → E c dx H') → tl E H1 Q'
def runSaid (n : Nat) (m : Msd) (th : Th) (s : S) : R D := match m th ((List.replicate n .un).set 0 .rv) s with
  | .nx _ s' => .ok .none s'
  | .rt d s' => .ok d s'
  | _ => .bad
def TTd (C : Ct) (n : Nat) (m : Msd) : (XK → Hp → VK → Prop) → Hp → VK → Prop := fun tl H Q =>
  ∃ g s th, SR C g s H ∧ ThOk C g H th tl ∧ (runSaid n m th s).sat (Gv C (rD C) g H Q) (fun _ _ => False)
def mLam (r : Th → Th) (mb : M D) : M D := fun env s => r (fun s1 => mb env s1) s
theorem runSaid_exc {n : Nat} {m : Msd} {th : Th} {s : S} {P : D → S → Prop} {PX : Ex → S → Prop} (h : (runSaid n m th s).sat P PX) : (runSaid n m th s).sat P (fun _ _ => False) := by
  unfold runSaid at h ⊢
  generalize m th ((List.replicate n Sl.un).set 0 .rv) s = r at h ⊢
  cases r <;> exact h
theorem lam_core {C : Ct} {W : WX} {n : Nat} {m : Msd} {mb : M D} {σ : L2.St} {H : Hp} {Q : VK} (h : tD C W (mLam (runSaid n m) mb) σ H Q) :
    LamX.tLam C.T (TTd C n m) (fun E => tD C (WF E) mb) σ H Q := by
  obtain ⟨g, env, s, r, h⟩ := h
  refine ⟨r.tab, fun H1 eN t1 => ?_⟩
  have st : Step g H g H1 := ⟨.refl _, .refl _, fun _ _ h => .inl h, fun _ h => .inl h, fun b o e _ n => eN b o e n, fun b v => vac_back (fun o e n => ⟨o, eN b o e n, n⟩) v, rfl⟩
  have sr : SR C g s H1 :=
    { sub := fun b o e => eN _ _ (r.sub _ _ e) (fun ps z => r.nt b ps (by rw [← z]; exact e)), len := r.len, nd := r.nd, nt := r.nt, tab := t1
      ndo := fun b k z => r.ndo b k (vac_back (fun o e n => ⟨o, eN b o e n, n⟩) z)
      st := fun k ds e => by obtain ⟨a, vs, h1, h2, h3, h4⟩ := r.st k ds e; exact ⟨a, vs, h1, eN _ _ h2 lst_tbl, h3, h4⟩ }
  refine ⟨g, s, fun s1 => mb env s1, sr, fun g1 s1 H1' E Q' stp sr1 hs => ?_, ?_⟩
  · exact ⟨g1, env, s1, r.step (st.trans stp) sr1, hs⟩
  · exact R.sat_mono (runSaid_exc h) (fun _ _ q => Gv.step st q) fun _ _ z => z
/-! ### the side of the def that calls it -/
section
variable {T : Tb} {Z : Cx} {W : WX} {B : Bs} {th : Th} {a : Str} {p1 p2 p3 : Pos}
/-- the thunk's call, at a place -/
def tThk (C : Ct) (n : Nat) (W : WX) (B : Bs) (th : Th) : TE := fun σ H Q => ∃ g env s, RelS C B g env s σ H ∧ env[0]? = some .rv ∧ σ.length = n ∧
  (th s).sat (fun d s' => ∀ g' v H', RelS C B g' env s' σ H' → DenG C g' v d → Q v H') (fun x s' => ∀ g' c dx σ' H', σ'.length = n → SR C g' s' H' → Step B.g0 B.H0 g' H' → Sub B.gb.F g'.F → Pre B.gb.am g'.am → XR C g' H' x c dx → W c dx σ' H')
def ThkAt (T : Tb) (Z : Cx) (B : Bs) (th : Th) (a : Str) : Prop := ∀ (W : WX) (pn : List (Addr × Obj)) (xe : Value → Shared → Prop) (p1 p2 : Pos), Takes (Z.tr pn xe) W → PE (Z.tr pn xe) (.Call (.Name a p1) [] [] p2) (tThk (ct T Z) Z.N.length W B th)
def mThkE (th : Th) : Ms := fun env s => match env[0]? with
  | some Sl.rv => match th s with
    | .ok _ s' => .nx env s'
    | .exc x s' => .exc x env s'
    | .bad => .bad
  | _ => .bad
def mThkR (th : Th) : Ms := fun env s => match env[0]? with
  | some Sl.rv => match th s with
    | .ok d s' => .rt d s'
    | .exc x s' => .exc x env s'
    | .bad => .bad
  | _ => .bad
/-- the reading of the body of a try: its exceptions without the places -/
def postT (C : Ct) (n : Nat) (W : WX) (B : Bs) (E : Ends) : Rs → Prop
  | .exc x _ s => ∀ g c dx σ H, σ.length = n → SR C g s H → Step B.g0 B.H0 g H → Sub B.gb.F g.F → Pre B.gb.am g.am → XR C g H x c dx → W c dx σ H
  | r => post C W B E r
def tST (C : Ct) (n : Nat) (W : WX) (B : Bs) (m : Ms) : TS := fun E σ H => ∃ g env s, RelS C B g env s σ H ∧ σ.length = n ∧ postT C n W B E (m env s)
theorem ds_thkE {pn : List (Addr × Obj)} {xe : Value → Shared → Prop} (h : ThkAt T Z B th a) (tk : Takes (Z.tr pn xe) W) (hs : swapsWith (.Call (.Name a p1) [] [] p2) none p3.line Z.env = pure false := by rfl) :
    PSs (Z.tr pn xe) [.Expr (.Call (.Name a p1) [] [] p2) p3] (tST (ct T Z) Z.N.length W B (mThkE th)) :=
  pss_one (ps_imp (ps_expr (h W pn xe p1 p2 tk) hs) fun E σ H ⟨g, env, s, r, l, q⟩ => by
    refine ⟨g, env, s, r, ?_, l, ?_⟩
    · unfold mThkE at q
      split at q
      · assumption
      · exact q.elim
    · unfold mThkE at q
      split at q
      · cases e : th s with
        | ok d s' => rw [e] at q; exact fun g' v H' r' _ => q g' σ H' r'
        | exc x s' => rw [e] at q; exact q
        | bad => rw [e] at q; exact q
      · exact q.elim)
theorem ds_thkR {pn : List (Addr × Obj)} {xe : Value → Shared → Prop} (h : ThkAt T Z B th a) (tk : Takes (Z.tr pn xe) W) :
    PSs (Z.tr pn xe) [.Return (some (.Call (.Name a p1) [] [] p2)) p3] (tST (ct T Z) Z.N.length W B (mThkR th)) :=
  pss_one (ps_imp (ps_ret (h W pn xe p1 p2 tk)) fun E σ H ⟨g, env, s, r, l, q⟩ => by
    refine ⟨g, env, s, r, ?_, l, ?_⟩
    · unfold mThkR at q
      split at q
      · assumption
      · exact q.elim
    · unfold mThkR at q
      split at q
      · cases e : th s with
        | ok d s' => rw [e] at q; exact fun g' v H' r' dn => q g' v H' r'.stp r'.toSR dn
        | exc x s' => rw [e] at q; exact q
        | bad => rw [e] at q; exact q
      · exact q.elim)
/-! ### the try -/
def clrE (i : Nat) (env : En) : En := (env.set i .un).map fun x => match x with | .rv => .un | x => x
def wipeR (n i : Nat) : En := (List.replicate n Sl.un).set i .rv
def mTry (n i : Nat) (pf : Ex → Bool) (mb : Ms) (ms : Ex → Ms) : Ms := fun env s => match mb env s with
  | .exc x _ s' => if pf x = true then match ms x (wipeR n i) s' with
    | .nx env' s2 => .nx (clrE i env') s2
    | .rt d s2 => .rt d s2
    | _ => .bad
    else .bad
  | r => r
theorem RelS.clr {C C' : Ct} (l : C.Like C') {B : Bs} {g : Gh} {env : En} {s : S} {σ : L2.St} {H : Hp} (r : RelS C B g env s σ H) (i : Nat) : RelS C' B g (clrE i env) s (σ.set i none) H := by
  obtain ⟨r1, ow⟩ := r.toRel.setUn i none
  have get : ∀ j x, (clrE i env)[j]? = some x → ∃ y, (env.set i Sl.un)[j]? = some y ∧ ((y = Sl.rv ∧ x = Sl.un) ∨ (y ≠ Sl.rv ∧ x = y)) := fun j x h => by
    unfold clrE at h
    rw [List.getElem?_map] at h
    cases e : (env.set i .un)[j]? with
    | none => rw [e] at h; cases h
    | some y =>
      rw [e] at h
      refine ⟨y, e, ?_⟩
      have h := Option.some.inj h
      cases y with
      | rv => exact .inl ⟨rfl, h.symm⟩
      | un => exact .inr ⟨by simp, h.symm⟩
      | fz d => exact .inr ⟨by simp, h.symm⟩
      | ow d => exact .inr ⟨by simp, h.symm⟩
      | sh d => exact .inr ⟨by simp, h.symm⟩
  have gow : ∀ j ds, (clrE i env)[j]? = some (Sl.ow ds) → (env.set i .un)[j]? = some (Sl.ow ds) := fun j ds h => by
    obtain ⟨y, e, ⟨_, z⟩ | ⟨_, z⟩⟩ := get j _ h
    · cases z
    · rw [e, z]
  have gsh : ∀ j ds, (clrE i env)[j]? = some (Sl.sh ds) → (env.set i .un)[j]? = some (Sl.sh ds) := fun j ds h => by
    obtain ⟨y, e, ⟨_, z⟩ | ⟨_, z⟩⟩ := get j _ h
    · cases z
    · rw [e, z]
  have ow' : ∀ j a, OwAt (clrE i env) (σ.set i none) j a → OwAt (env.set i .un) (σ.set i none) j a := fun j a ⟨⟨ds, h⟩, k⟩ => ⟨⟨ds, gow j ds h⟩, k⟩
  have ad' : ∀ j a, AdAt (clrE i env) (σ.set i none) j a → AdAt (env.set i .un) (σ.set i none) j a := fun j a ⟨⟨ds, h⟩, k⟩ => ⟨⟨ds, h.elim (fun h => .inl (gow j ds h)) fun h => .inr (gsh j ds h)⟩, k⟩
  refine { r1.toSR.like l with slen := by unfold clrE; rw [List.length_map]; exact r1.slen, sl := fun j x h => ?_, ap := fun j k a h1 h2 => r1.ap j k a (ow' j a h1) (ad' k a h2), stp := r.stp, nw := fun j a h => r.nw j a (ow j a (ow' j a h)), fb := r.fb, fa := r.fa }
  obtain ⟨y, e, ⟨_, z⟩ | ⟨n, z⟩⟩ := get j _ h
  · rw [z]; trivial
  · rw [z]; exact (r1.sl j y e).like l n
theorem relS_wipe {C : Ct} {B : Bs} {g : Gh} {s : S} {σ : L2.St} {H : Hp} (sr : SR C g s H) (st : Step B.g0 B.H0 g H) (fb : Sub B.gb.F g.F) (fa : Pre B.gb.am g.am) (i n : Nat) (hl : σ.length = n) (hv : i < n → σ[i]? = some (some C.rv)) : RelS C B g (wipeR n i) s σ H := by
  have get : ∀ j x, (wipeR n i)[j]? = some x → x = .un ∨ (j = i ∧ i < n ∧ x = .rv) := fun j x h => by
    unfold wipeR at h
    by_cases e : j = i
    · subst e
      by_cases hi : j < n
      · rw [List.getElem?_set_self (by simpa using hi)] at h
        exact .inr ⟨rfl, hi, (Option.some.inj h).symm⟩
      · rw [List.getElem?_eq_none (by simpa using hi)] at h; cases h
    · rw [List.getElem?_set_ne (Ne.symm e), List.getElem?_replicate] at h
      split at h
      · exact .inl (Option.some.inj h).symm
      · cases h
  have noow : ∀ j a, OwAt (wipeR n i) σ j a → False := fun j a ⟨⟨ds, h⟩, _⟩ => by
    rcases get j _ h with z | ⟨_, _, z⟩ <;> cases z
  refine { sr with slen := by unfold wipeR; rw [List.length_set, List.length_replicate]; exact hl, sl := fun j x h => ?_, ap := fun j k a h1 _ => (noow j a h1).elim, stp := st, nw := fun j a h => (noow j a h).elim, fb := fb, fa := fa }
  rcases get j _ h with z | ⟨e, hi, z⟩
  · rw [z]; trivial
  · rw [z, e]; exact hv hi
abbrev Tb.at (T : Tb) (a : Addr) : Tb := ⟨T.T, .ref a⟩
theorem like_at {T : Tb} {X Y : Cx} {a : Addr} (h1 : Y.K = X.K := by rfl) (h2 : Y.mg = X.mg := by rfl) : (ct T X).Like (ct (T.at a) Y) := ⟨h1, h2, rfl⟩
def Ct.rw (C : Ct) (v : V) : Ct := ⟨C.K, C.mg, C.T, v⟩
/-- the wish of the clause -/
def tsT (C : Ct) (n i : Nat) (B : Bs) (pf : Ex → Bool) (ms : Ex → Ms) (a : Addr) (c : Value) (d : Option Addr) : TS := fun D σ H => ∃ x g s, σ[i]? = some (some (.ref a)) ∧ pf x = true ∧ SR C g s H ∧ Step B.g0 B.H0 g H ∧ Sub B.gb.F g.F ∧ Pre B.gb.am g.am ∧ XR C g H x c d ∧ σ.length = n ∧
  match ms x (wipeR n i) s with
  | .nx env' s2 => ∀ g σ H, RelS (C.rw (.ref a)) B g env' s2 σ H → D.nx σ H
  | .rt v s2 => post C W0 B D (.rt v s2)
  | _ => False
theorem ds_tryT {c : Value} {body suite : List Stmt} {b₀ : Stmt} {np pos pos' : Pos} {mb : Ms} {ms : Ex → Ms} {i : Nat} {x nm : Str} {pf : Ex → Bool} (hs : Z.stack = Z.env :: Z.outer) (hf : Z.env.frame = some Z.env.locals) (hN : Z.N.Nodup) (hi : Z.N[i]? = some nm) (hln : Z.env.kindOf nm = some .local) (hc : Names Z x c)
    (hp : ∀ (y : Ex) (a : Addr), Z.mg y.cls = some (.ref a) → pf y = true → PySem.W.exmOne Z.K (.ref a) c = some true)
    (hb : ∀ (W : WX) (pn : List (Addr × Obj)) (xe : Value → Shared → Prop), Takes (Z.tr pn xe) W → PSs (Z.tr pn xe) body (tST (ct T Z) Z.N.length W B mb))
    (hsu : ∀ (a : Addr) (oe : Obj) (d : Option Addr) (pn : List (Addr × Obj)) (y : Ex) (D : Addr), Z.mg y.cls = some (.ref D) → Zc (.ref D) d oe → (∃ vs, oe.data = .fields vs) → (y.args = [] → d = none) → pf y = true → DSs (T.at a) (Z.suite a ((a, oe) :: pn)) W0 B (b₀ :: suite) (ms y)) (tk : Takes Z W) :
    DS T Z W B (.Try body [.ExceptHandler (some (.Name x np)) (some nm) (b₀ :: suite) pos'] [] [] pos) (mTry Z.N.length i pf mb ms) := by
  have hin : i < Z.N.length := (List.getElem?_eq_some_iff.mp hi).1
  have P := (ps_try_as (X := Z) (c := c) (i := i) (Wout := W0) (tb := fun W => tST (ct T Z) Z.N.length W B mb) (ts := fun a cls d => fun D σ H => tsT (ct T Z) Z.N.length i B pf ms a cls d { D with nx := fun σ' H' => D.nx σ' H' } σ H) hs hf hN hi hln hc LamX.takes0 (fun W pn xe tk _ => hb W pn xe tk) (np := np) (pos := pos) (pos' := pos') (b₀ := b₀) (suite := suite) (body := body) (fun a oe cls d pn hz hfi => by
    refine ⟨fun pins s σ H D I h => ?_⟩
    obtain ⟨y, g, s', hσ, hpf, sr, st, fb, fa, xr, hl, hm⟩ := h
    obtain ⟨D', rfl, e4, e5⟩ := xr
    have hd : y.args = [] → d = none := fun z => by
      rcases e5 with e5 | ⟨_, _, e5, _⟩
      · exact e5.2
      · exact absurd z e5
    refine (hsu a oe d pn y D' e4 hz hfi hd hpf).run pins s σ H D I ⟨g, wipeR Z.N.length i, s', ?_, ?_⟩
    · exact relS_wipe (C := ct (T.at a) Z) (sr.like like_at) st fb fa i _ hl fun _ => hσ
    · revert hm
      generalize ms y (wipeR Z.N.length i) s' = r
      intro hm
      cases r with
      | nx env' s2 => exact fun g2 σ2 H2 r2 => hm g2 σ2 H2 r2
      | rt v s2 => exact fun g2 u H2 st2 sr2 dn2 => hm g2 u H2 st2 (sr2.like (Ct.Like.symm like_at)) (Den.like (Ct.Like.symm like_at) dn2)
      | bk _ _ => exact hm.elim
      | ct _ _ => exact hm.elim
      | exc _ _ _ => exact hm.elim
      | bad => exact hm.elim
    ))
  refine ⟨fun pins s σ H D I h => P.run pins s σ H D I ?_⟩
  obtain ⟨g, env, s', r, q⟩ := h
  refine ⟨g, env, s', r, I.len, ?_⟩
  unfold mTry at q
  generalize mb env s' = rb at q
  cases rb with
  | nx env' s2 => exact q
  | rt v s2 => exact q
  | bk env' s2 => exact q
  | ct env' s2 => exact q
  | bad => exact q
  | exc x env' s2 =>
    intro g2 c2 dx σ2 H2 hl sr st fb fa xr
    have q : post (ct T Z) W B D (if pf x = true then match ms x (wipeR Z.N.length i) s2 with | .nx env' s2 => .nx (clrE i env') s2 | .rt d s2 => .rt d s2 | _ => .bad else .bad) := q
    by_cases hpf : pf x = true
    · rw [if_pos hpf] at q
      obtain ⟨D', ec, e4, e5⟩ := id xr
      refine ⟨true, by rw [ec]; exact hp _ _ e4 hpf, fun _ a na => ⟨x, g2, s2, ?_, hpf, sr, st, fb, fa, xr, by rw [List.length_set]; exact hl, ?_⟩, fun z => by cases z⟩
      · exact List.getElem?_set_self (by rw [hl]; exact hin)
      · generalize ms x (wipeR Z.N.length i) s2 = r2 at q
        cases r2 with
        | nx env3 s3 => exact fun g3 σ3 H3 r3 => q g3 _ H3 (RelS.clr (C := (ct T Z).rw (.ref a)) (C' := ct T Z) ⟨rfl, rfl, rfl⟩ r3 i)
        | rt v s3 => exact fun g3 u H3 st3 sr3 dn3 => q g3 u H3 st3 sr3 dn3
        | bk _ _ => exact q.elim
        | ct _ _ => exact q.elim
        | exc _ _ _ => exact q.elim
        | bad => exact q.elim
    · rw [if_neg hpf] at q; exact q.elim
end
end Dn

set_option Elab.async false
set_option linter.all false
set_option maxRecDepth 100000
set_option maxHeartbeats 4000000
namespace Dn
open PySem PySem.Spec PyProof.Rows L2 LamX
theorem takes_len {Z : Cx} {W : WX} (tk : Takes Z W) : Takes Z (fun c d σ H => σ.length = Z.N.length → W c d σ H) := fun u s' ⟨a, B, sI, pins, σ, H, cls, d, e, I, nb, up, sky, na, os, ag, w⟩ =>
  tk u s' ⟨a, B, sI, pins, σ, H, cls, d, e, I, nb, up, sky, na, os, ag, w I.len⟩
/-- the context of the def that calls the thunk -/
abbrev sdX (X : Cx) (Ng : List Str) (x : Str) (sg : Scope) (g : Addr) (cdg : Value) (s : Shared) (H : Hp) : Cx := (cxOf C8.CX0 X.prog X.w X.K X.mg X.base Ng x sg g cdg X.A X.stack s H C8.E0).nox
theorem said_gives {X : Cx} {T : Tb} {Ng : List Str} {x a q : Str} {sg : Scope} {g : Addr} {cdg : Value} {bg : List Stmt} {m : Msd} {k : Nat} (hn : Ng ≠ []) (nd : Ng.Nodup) (hr : Room (k + 1) X.A)
    (hb : ∀ (f : Addr) (s : Shared) (H : Hp) (B : Bs) (th : Th), ThkAt (T.at f) (sdX X Ng x sg g cdg s H) B th a → At (T.at f) (sdX X Ng x sg g cdg s H) W0 false → DSs (T.at f) (sdX X Ng x sg g cdg s H) W0 B bg (m th)) :
    GivesTo X Ng x sg g cdg bg a q (TTd (ct T X) Ng.length m) := by
  intro f c' s H Q tl act hc ⟨g0, s0, th, sr, tho, hs⟩
  have hnl : 0 < Ng.length := List.length_pos_iff.mpr hn
  have nam : c' ∉ g0.am := fun z => by
    obtain ⟨vs, e, _⟩ := sr.am_some z
    rw [hc] at e
    unfold CodeO at e
    cases e
  have lk : (ct T X).Like (ct (T.at f) (sdX X Ng x sg g cdg s H)) := ⟨rfl, rfl, rfl⟩
  have tk : ThkAt (T.at f) (sdX X Ng x sg g cdg s H) ⟨g0, g0, H⟩ th a := fun W pn xe p1 p2 tkw => by
    refine pe_imp (act (fun c d σ H => σ.length = Ng.length → W c d σ H) pn xe (fun c d H => ∀ σ, σ.length = Ng.length → W c d σ H) p1 p2 (takes_len tkw) (fun _ _ _ _ h l => h _ l)) fun σ H1 Q1 ⟨g1, env, s1, r, e0, el, h⟩ => ?_
    refine ⟨r.sl 0 _ e0, r.stp.kp _ _ hc nam codeO_tbl, ?_⟩
    refine tho g1 s1 H1 _ Q1 r.stp (r.toSR.like lk.symm) (R.sat_mono h (fun d s' q g' v H' t sr' dn => ?_) fun y s' q g' c dx H' t sr' xr σ' l => ?_)
    · exact q g' v H' (r.step t (sr'.like lk)) (Den.like lk dn)
    · exact q g' c dx σ' H' l (sr'.like lk) (r.stp.trans t) (r.fb.trans t.F) (r.fa.trans t.am) (XR.like lk xr)
  have hA : At (T.at f) (sdX X Ng x sg g cdg s H) W0 false := ⟨by have := (hr.deeper (envOfC x sg s.heap.objs.size g cdg)).un; show (X.A.deeper _).units + 150 < cLine; omega, (fun z => by cases z), nd, takes0⟩
  refine ⟨_, hb f s H ⟨g0, g0, H⟩ th tk hA, g0, wipeR Ng.length 0, s0, relS_wipe (sr.like lk) (Step.refl _ _) (.refl _) (.refl _) 0 _ ?_ (fun _ => ?_), ?_⟩
  · unfold L2.start
    simp
    omega
  · unfold L2.start
    simp
  · unfold runSaid at hs
    have e : m th ((List.replicate Ng.length Sl.un).set 0 .rv) s0 = m th (wipeR Ng.length 0) s0 := rfl
    rw [e] at hs
    generalize m th (wipeR Ng.length 0) s0 = r at hs
    cases r with
    | nx env' s2 => exact fun g2 σ2 H2 r2 => hs g2 .non H2 r2.stp (r2.toSR.like lk.symm) .non
    | rt v s2 => exact fun g2 u H2 st2 sr2 dn2 => hs g2 u H2 st2 (sr2.like lk.symm) (Den.like lk.symm dn2)
    | bk _ _ => exact hs.elim
    | ct _ _ => exact hs.elim
    | exc _ _ _ => exact hs.elim
    | bad => exact hs.elim
/-- x(lambda: body) -/
theorem de_lam {X : Cx} {T : Tb} {W : WX} {x a : Str} {g c P : Addr} {k : Nat} {pg : Arguments} {bg : List Stmt} {sg : Scope} {dV kV doc pm cdv ct' oc : Value} {an od : Option Addr} {osl : Array (Option Value)} {Ng : List Str} {m : Msd} {mb : M D}
    {params : Arguments} {body : Expr} {scope : Scope} {p lpos pos : Pos} (hg : Gl X x) (hm : X.mg x = some (.ref g)) (hk : PySem.W.keepIn X.K (.ref g) = true)
    (lk : X.K.lookup g = some ⟨oc, od, .func (PySem.W.fnOf x x pg bg sg dV kV doc pm an cdv ct'), osl⟩) (hcg : PySem.W.codeIn X.K cdv x = true) (hb : L2.Binds X.K (PySem.W.fnOf x x pg bg sg dV kV doc pm an cdv ct') [a] []) (Sg : FnScope Ng [a] sg) (hNg : Ng[0]? = some a) (hva : Vis sg a)
    (hG : ∀ (f : Addr) (s : Shared) (H : Hp) (B : Bs) (th : Th), ThkAt (T.at f) (sdX X Ng x sg g cdv s H) B th a → At (T.at f) (sdX X Ng x sg g cdv s H) W0 false → DSs (T.at f) (sdX X Ng x sg g cdv s H) W0 B bg (m th))
    {q : Str} (hq : X.env.qual = q) (TB : TabB X.base X.mg c P) (hcode : X.env.code = .ref c) (hmT : (P, q ++ "<lambda>") ∈ T.T) (hu : ∀ p ∈ T.T, p.1 = P → p.2 = q ++ "<lambda>") (hr : Room (k + 2) X.A) (L : LamS X.env.scope scope) (hdef : defaultsOf params X.env = ([], [])) {rp : Bool} (A : At T X W rp)
    (hbind : ∀ (q : Str) (cl : List (Str × Addr)) (pm cv ctv : Value), bindArgs (PySem.W.kla_fn "<lambda>" q params body scope cl pm cv ctv) ⟨[], []⟩ = pure [])
    (hbody : ∀ (A : Around) (outer : List Env) (s : Shared) (H : Hp) (E : XK) (f c' : Addr), Room k (A.deeper (lamEnv X scope s.heap.objs.size f c')) → At T (lamCx X A outer s H E scope f c') (WF E) false → DE T (lamCx X A outer s H E scope f c') (WF E) body mb)
    (hdb : (x == ("__debug__" : Str)) = false := by decide) (hd : (a == ("__debug__" : Str)) = false := by decide) (hcd : (a == ("__classdict__" : Str)) = false := by decide) :
    DE T X W (.Call (.Name x p) [.Lambda params body scope lpos] [] pos) (mLam (runSaid Ng.length m) mb) := by
  subst hq
  exact pe_imp (pe_lamcall (t := fun E => tD (ct T X) (WF E) mb) hg hm hk lk hcg hb Sg hNg hva (said_gives (T := T) (k := k + 1) (fun z => by rw [z] at hNg; cases hNg) Sg.nd hr hG) TB hcode hmT hu hr L hdef hbind
    (fun A' outer s H E f c' hr' => hbody A' outer s H E f c' hr' ⟨by have := hr'.un; show (A'.deeper _).units + 150 < cLine; omega, (fun z => by cases z), A.nd, takes_of rfl rfl rfl rfl⟩) hdb hd hcd) fun σ H Q h => lam_core (C := ct T X) h
/-! ### isinstance of the caught one -/
theorem at_suite {T T' : Tb} {Z : Cx} {W : WX} {rp : Bool} (A : At T Z W rp) (a : Addr) (pn : List (Addr × Obj)) : At T' (Z.suite a pn) W0 rp := ⟨A.un, A.gd, A.nd, takes0⟩
def mIsE (i : Nat) (b : Bool) : M D := fun env s => match env[i]? with | some Sl.rv => .ok (.bool b) s | _ => .bad
theorem de_isE {T : Tb} {Z : Cx} {W : WX} {a D : Addr} {oe : Obj} {pn : List (Addr × Obj)} {i : Nat} {b : Bool} {cv : V} {cvv : Value} {x t : Str} {p p1 p2 pos : Pos} (C : ExcC Z.K D) (hz : Zc (.ref D) none oe) (hf : ∃ vs, oe.data = .fields vs)
    (hN : Z.N[i]? = some x) (hv : Vis Z.env.scope x) (hcls : PE (Z.suite a ((a, oe) :: pn)) (.Name t p2) (fun _ H Q => Q cv H)) (hcv : ∀ u, RelV cv u → u = cvv) (hk : PySem.W.kitOne Z.K (.ref D) cvv = some b)
    (hg : Gl (Z.suite a ((a, oe) :: pn)) "isinstance") (hm : Z.mg "isinstance" = none) (hd : (x == ("__debug__" : Str)) = false := by decide) (hcd : (x == ("__classdict__" : Str)) = false := by decide) :
    DE (T.at a) (Z.suite a ((a, oe) :: pn)) W (.Call (.Name "isinstance" p) [.Name x p1, .Name t p2] [] pos) (mIsE i b) := by
  have pa := pa_cons (pe_var (X := Z.suite a ((a, oe) :: pn)) (pos := p1) (i := i) hN hv hd hcd) (pa_cons hcls pa_nil (by rfl)) (by rfl)
  refine pe_imp (pe_callB (call_isE (X := Z) (pn := pn) C hz hf) hg hm (by decide +kernel) pa (by decide) (by decide) (by rfl) (by rfl)) fun σ H Q h => ?_
  obtain ⟨g, env, s, r, h⟩ := h
  unfold mIsE at h
  split at h
  · rename_i e0
    exact ⟨_, r.sl i _ e0, ⟨cv, cvv, b, rfl, hcv, hk, h.here r.toSR (.bl b)⟩⟩
  · exact h.elim
end Dn

set_option Elab.async false
set_option linter.all false
set_option maxRecDepth 100000
set_option maxHeartbeats 4000000
namespace Dn
open PySem PySem.Spec PyProof.Rows L2
/-! ### several values at once, some of them lists of one's own -/
def owA : List Bool → List V → List Addr
  | true :: ks, .ref p :: vs => p :: owA ks vs
  | _ :: ks, _ :: vs => owA ks vs
  | _, _ => []
inductive AK (C : Ct) (g : Gh) (H : Hp) : List Bool → List V → List D → Prop
  | nil : AK C g H [] [] []
  | fz {v : V} {d : D} {ks : List Bool} {vs : List V} {ds : List D} : DenG C g v d → AK C g H ks vs ds → AK C g H (false :: ks) (v :: vs) (d :: ds)
  | ow {p : Addr} {xs : List V} {es : List D} {ks : List Bool} {vs : List V} {ds : List D} : H p = some (.lst xs) → g.F p = none → p ∉ g.am → ¬ g.nd p → DenGL C g xs es → p ∉ owA ks vs → AK C g H ks vs ds → AK C g H (true :: ks) (.ref p :: vs) (.list es :: ds)
section
variable {C : Ct} {W : WX} {B : Bs} {g g' : Gh} {H H' : Hp} {env : En} {s s' : S} {σ : L2.St} {E : Ends}
theorem AK.length : ∀ {ks : List Bool} {vs : List V} {ds : List D}, AK C g H ks vs ds → vs.length = ks.length ∧ ds.length = ks.length
  | _, _, _, .nil => ⟨rfl, rfl⟩
  | _, _, _, .fz _ r => by simp [AK.length r]
  | _, _, _, .ow _ _ _ _ _ _ r => by simp [AK.length r]
theorem AK.nd : ∀ {ks : List Bool} {vs : List V} {ds : List D}, AK C g H ks vs ds → ∀ p ∈ owA ks vs, ¬ g.nd p ∧ ∃ xs, H p = some (.lst xs)
  | _, _, _, .nil, p, h => by simp [owA] at h
  | _, _, _, .fz _ r, p, h => AK.nd r p (by simpa [owA] using h)
  | _, _, _, .ow a b c d e f r, p, h => by
    simp only [owA, List.mem_cons] at h
    rcases h with h | h
    · rw [h]; exact ⟨d, _, a⟩
    · exact AK.nd r p h
theorem AK.renew {nd : Addr → Prop} : ∀ {ks : List Bool} {vs : List V} {ds : List D}, AK C g H ks vs ds → (∀ p ∈ owA ks vs, ¬ nd p) → AK C ⟨g.F, g.am, nd⟩ H ks vs ds
  | _, _, _, .nil, _ => .nil
  | _, _, _, .fz a r, h => .fz a (AK.renew r fun p hp => h p (by simpa [owA] using hp))
  | _, _, _, .ow a b c d e f r, h => .ow a b c (h _ (by simp [owA])) e f (AK.renew r fun p hp => h p (by simp [owA, hp]))
theorem adAt_set {i j : Nat} {x : Sl} {v : V} {q : Addr} (h : AdAt (env.set i x) (σ.set i (some v)) j q) : (j = i ∧ (∃ ds, x = .ow ds ∨ x = .sh ds) ∧ v = .ref q) ∨ (j ≠ i ∧ AdAt env σ j q) := by
  obtain ⟨⟨ds, h1⟩, h2⟩ := h
  by_cases e : j = i
  · subst e
    refine .inl ⟨rfl, ⟨ds, ?_⟩, ?_⟩
    · have : j < env.length := by
        rcases h1 with h1 | h1 <;> simpa using (List.getElem?_eq_some_iff.mp h1).1
      rw [List.getElem?_set_self this] at h1
      simpa using h1
    · have : j < σ.length := by simpa using (List.getElem?_eq_some_iff.mp h2).1
      rw [List.getElem?_set_self this] at h2
      simpa using h2
  · rw [List.getElem?_set_ne (Ne.symm e)] at h1 h2
    exact .inr ⟨e, ⟨ds, h1⟩, h2⟩
def setE : List Nat → List Bool → List D → En → En
  | i :: is, false :: ks, d :: ds, env => setE is ks ds (env.set i (.fz d))
  | i :: is, true :: ks, .list es :: ds, env => setE is ks ds (env.set i (.ow es))
  | _, _, _, env => env
def setV : List Nat → List V → L2.St → L2.St
  | i :: is, v :: vs, σ => setV is vs (σ.set i (some v))
  | _, _, σ => σ
theorem setAll : ∀ {is : List Nat} {ks : List Bool} {vs : List V} {ds : List D} {env : En} {σ : L2.St}, AK C g H ks vs ds → is.length = ks.length → RelS C B g env s σ H → (∀ p ∈ owA ks vs, (∀ j, AdAt env σ j p → False) ∧ Vac B.H0 p) → RelS C B g (setE is ks ds env) s (setV is vs σ) H
  | is, _, _, _, env, σ, .nil, hl, r, _ => by
    cases is with
    | nil => exact r
    | cons => cases hl
  | i :: is, _, _, _, env, σ, .fz (ks := ks) (vs := vs) (v := v) (d := d) a rest, hl, r, h => by
    have k : ∀ p ∈ owA ks vs, (∀ j, AdAt (env.set i (.fz d)) (σ.set i (some v)) j p → False) ∧ Vac B.H0 p := fun p hp => by
      obtain ⟨h1, h2⟩ := h p (by simpa [owA] using hp)
      refine ⟨fun j hj => ?_, h2⟩
      rcases adAt_set hj with ⟨_, ⟨ds, z | z⟩, _⟩ | ⟨_, z⟩
      · cases z
      · cases z
      · exact h1 j z
    have fin := setAll (is := is) rest (by simpa using hl) (r.setFz i a) k
    exact fin
  | i :: is, _, _, _, env, σ, .ow (p := p) (ks := ks) (vs := vs) (es := es) a b c d e f rest, hl, r, h => by
    obtain ⟨h1, h2⟩ := h p (by simp [owA])
    have k : ∀ q ∈ owA ks vs, (∀ j, AdAt (env.set i (.ow es)) (σ.set i (some (.ref p))) j q → False) ∧ Vac B.H0 q := fun q hq => by
      obtain ⟨h3, h4⟩ := h q (by simp [owA, hq])
      refine ⟨fun j hj => ?_, h4⟩
      rcases adAt_set hj with ⟨_, _, z⟩ | ⟨_, z⟩
      · cases z; exact f hq
      · exact h3 j z
    have fin := setAll (is := is) rest (by simpa using hl) (r.setOw i a b c e h1 h2) k
    exact fin
  | [], _, _, _, _, _, .fz _ _, hl, _, _ => by cases hl
  | [], _, _, _, _, _, .ow _ _ _ _ _ _ _, hl, _, _ => by cases hl
end
def tK (C : Ct) (W : WX) (ks : List Bool) (m : M (List D)) : TA := fun σ H Q => ∃ g env s, Rel C g env s σ H ∧ (m env s).sat (fun ds s' => ∀ g' vs H', Step g H g' H' → SR C g' s' H' → AK C g' H' ks vs ds → Q vs H') (PX C W σ g H)
abbrev DK (T : Tb) (X : Cx) (W : WX) (es : List Expr) (ks : List Bool) (m : M (List D)) : Prop := PA X es (tK (ct T X) W ks m)
def mConsO (ma : M (List D)) (mr : M (List D)) : M (List D) := fun env s => (ma env s).bind fun d s1 => (mr env s1).bind fun ds s2 => .ok (.list d :: ds) s2
section
variable {T : Tb} {X : Cx} {W : WX} {B : Bs} {e : Expr} {es : List Expr} {ks : List Bool} {m : M D} {ml : M (List D)} {mr : M (List D)}
theorem dk_nil : DK T X W [] [] mNil := pa_imp pa_nil fun σ H Q q => by
  obtain ⟨g, env, s, r, h⟩ := q
  exact h g [] H (Step.refl _ _) r.toSR .nil
theorem AK.step0 {C : Ct} {g g' : Gh} {H H' : Hp} (t : Step g H g' H') {v : V} {d : D} (h : DenG C g v d) {vs : List V} {ds : List D} (r : AK C g' H' ks vs ds) : AK C g' H' (false :: ks) (v :: vs) (d :: ds) := .fz (t.den h) r
theorem dk_cons (ha : DE T X W e m) (hr : DK T X W es ks mr) (hs : starEach (e :: es) X.env = (false, eval e X.env) :: starEach es X.env := by rfl) : DK T X W (e :: es) (false :: ks) (mCons m mr) :=
  pa_imp (pa_cons ha hr hs) fun σ H Q q => by
    obtain ⟨g, env, s, r, h⟩ := q
    refine ⟨g, env, s, r, R.sat_mono (R.sat_bind h) (fun d s1 q g1 v H1 t sr dn => ?_) fun _ _ q => q⟩
    refine ⟨g1, env, s1, r.step t sr, R.sat_mono (R.sat_bind q) (fun ds s2 q2 g2 vs H2 t2 sr2 dl => ?_) fun _ _ => PX.step t⟩
    exact q2 g2 _ H2 (t.trans t2) sr2 (.fz (t2.den dn) dl)
theorem dk_consO (ha : DL T X W (rOw (ct T X)) e ml) (hr : DK T X W es ks mr) (hs : starEach (e :: es) X.env = (false, eval e X.env) :: starEach es X.env := by rfl) : DK T X W (e :: es) (true :: ks) (mConsO ml mr) :=
  pa_imp (pa_cons ha hr hs) fun σ H Q q => by
    obtain ⟨g, env, s, r, h⟩ := q
    refine ⟨g, env, s, r, R.sat_mono (R.sat_bind h) (fun d s1 q g1 v H1 t sr ro => ?_) fun _ _ q => q⟩
    obtain ⟨p, xs, rfl, hH, hF, ha, hn, l⟩ := ro
    have t0 : ∀ {g2 H2}, Step ⟨g1.F, g1.am, fun z => g1.nd z ∨ z = p⟩ H1 g2 H2 → Step g1 H1 ⟨g2.F, g2.am, g1.nd⟩ H2 := fun u => ⟨u.F, u.am, u.Fn, u.an, u.kp, u.dm, rfl⟩
    have s0 : ∀ {g2 s2 H2}, Step ⟨g1.F, g1.am, fun z => g1.nd z ∨ z = p⟩ H1 g2 H2 → SR (ct T X) g2 s2 H2 → SR (ct T X) ⟨g2.F, g2.am, g1.nd⟩ s2 H2 := fun u v => ⟨v.sub, v.len, v.nd, v.st, v.tab, fun b hb z => v.ndo b (by rw [u.nd]; exact .inl hb) z, v.nt⟩
    have r1 : Rel (ct T X) ⟨g1.F, g1.am, fun z => g1.nd z ∨ z = p⟩ env s1 σ H1 := { (r.step t sr) with ndo := fun b hb z => hb.elim (fun hb => sr.ndo b hb z) fun hb => Vac.no (b := p) (by subst hb; exact z) hH lst_tbl }
    refine ⟨_, env, s1, r1, R.sat_mono (R.sat_bind q) (fun ds s2 q2 g2 vs H2 t2 sr2 dl => ?_) fun x s2 q2 g2 c dx H2 t2 sr2 xr => q2 ⟨g2.F, g2.am, g1.nd⟩ c dx H2 (t.trans (t0 t2)) (s0 t2 sr2) xr⟩
    have np : p ∉ owA ks vs := fun z => (AK.nd dl p z).1 (by rw [t2.nd]; exact .inr rfl)
    refine q2 ⟨g2.F, g2.am, g1.nd⟩ _ H2 (t.trans (t0 t2)) (s0 t2 sr2) (.ow (t2.kp _ _ hH ha lst_tbl) ((t0 t2).off hH hF) ((t0 t2).noam hH ha) hn ((t0 t2).denL l) np ?_)
    exact AK.renew dl fun z hz k => (AK.nd dl z hz).1 (by rw [t2.nd]; exact .inl k)
def mPar (is : List Nat) (ks : List Bool) (m : M (List D)) : Ms := mOf m fun ds env s => .nx (setE is ks ds env) s
/-- the values are there, and stored one after the other -/
theorem par_core {is : List Nat} (hl : is.length = ks.length) {E : Ends} {σ : L2.St} {H : Hp} (q : tS (ct T X) W B (mPar is ks ml) E σ H) : tK (ct T X) W ks ml σ H fun vs H1 => vs.length = ks.length ∧ E.nx (setV is vs σ) H1 := by
  obtain ⟨g, env, s, r, q⟩ := q
  refine ⟨g.re H, env, s, r.toRel.re, ?_⟩
  unfold mPar mOf at q
  cases ev : ml env s with
  | bad => rw [ev] at q; exact q.elim
  | exc y s' =>
    rw [ev] at q
    exact fun g' c dx H' t sr xr => q ⟨g'.F, g'.am, g.nd⟩ c dx σ H' (r.step t.back (sr.back t r.toSR)) xr
  | ok ds s' =>
    rw [ev] at q
    intro g' vs H' t sr ak
    have hn : ∀ p ∈ owA ks vs, Vac H p := fun p hp => Classical.byContradiction fun z => (AK.nd ak p hp).1 (by rw [t.nd]; exact z)
    refine ⟨ak.length.1, q ⟨g'.F, g'.am, g.nd⟩ _ H' (setAll (ak.renew fun p hp z => r.ndo p z (hn p hp)) hl (r.step t.back (sr.back t r.toSR)) fun p hp => ⟨fun j hj => ?_, r.stp.dm p (hn p hp)⟩)⟩
    obtain ⟨ws, z⟩ := AdAt.there r.toRel hj
    exact (hn p hp).no z lst_tbl
theorem ds_par {i j : Nat} {x y : Str} {a b : Expr} {px py pt pos : Pos} {kt k2 pt2} {k1 k3 : Bool} {rp : Bool} (A : At T X W rp) (hc : X.calm = true) (hi : X.N[i]? = some x) (hj : X.N[j]? = some y) (hij : i ≠ j) (hx : X.env.scope.names.lookup x = some .local) (hy : X.env.scope.names.lookup y = some .local)
    (ha : DK T X W [a, b] [k1, k3] ml) (hw : swappedStores [.Tuple [.Name x px, .Name y py] kt pt] (.Tuple [a, b] k2 pt2) X.env = pure (some [x, y])) (hs : swapsWithSole [.Tuple [.Name x px, .Name y py] kt pt] (.Tuple [a, b] k2 pt2) pos.line X.env = pure false := by rfl) :
    DS T X W B (.Assign [.Tuple [.Name x px, .Name y py] kt pt] (.Tuple [a, b] k2 pt2) pos) (mPar [i, j] [k1, k3] ml) :=
  ps_imp (ps_par hc A.nd hi hj hij hx hy ha hw hs) fun E σ H q => by
    obtain ⟨g, env, s, r, h⟩ := par_core (is := [i, j]) rfl q
    refine ⟨g, env, s, r, R.sat_mono h (fun ds s' k g' vs H' t sr ak => ?_) fun _ _ k => k⟩
    obtain ⟨l, k⟩ := k g' vs H' t sr ak
    match vs, l, k with
    | [v, w], _, k => exact ⟨v, w, rfl, k⟩
theorem ds_par3 {i j l : Nat} {x y z : Str} {a b c : Expr} {px py pz pt pos : Pos} {kt k2 pt2} {k1 k3 k4 : Bool} {rp : Bool} (A : At T X W rp) (hc : X.calm = true) (hi : X.N[i]? = some x) (hj : X.N[j]? = some y) (hl : X.N[l]? = some z) (hij : i ≠ j) (hil : i ≠ l) (hjl : j ≠ l)
    (hx : X.env.scope.names.lookup x = some .local) (hy : X.env.scope.names.lookup y = some .local) (hz : X.env.scope.names.lookup z = some .local)
    (ha : DK T X W [a, b, c] [k1, k3, k4] ml) (hw : swappedStores [.Tuple [.Name x px, .Name y py, .Name z pz] kt pt] (.Tuple [a, b, c] k2 pt2) X.env = pure (some [x, y, z])) (hs : swapsWithSole [.Tuple [.Name x px, .Name y py, .Name z pz] kt pt] (.Tuple [a, b, c] k2 pt2) pos.line X.env = pure false := by rfl) :
    DS T X W B (.Assign [.Tuple [.Name x px, .Name y py, .Name z pz] kt pt] (.Tuple [a, b, c] k2 pt2) pos) (mPar [i, j, l] [k1, k3, k4] ml) :=
  ps_imp (ps_par3 hc A.nd hi hj hl hij hil hjl hx hy hz ha hw hs) fun E σ H q => by
    obtain ⟨g, env, s, r, h⟩ := par_core (is := [i, j, l]) rfl q
    refine ⟨g, env, s, r, R.sat_mono h (fun ds s' k g' vs H' t sr ak => ?_) fun _ _ k => k⟩
    obtain ⟨l, k⟩ := k g' vs H' t sr ak
    match vs, l, k with
    | [u, v, w], _, k => exact ⟨u, v, w, rfl, k⟩
/-! ### a list of the store -/
def mMu (m : M (List D)) : M D := fun env s => (m env s).bind fun ds s' => .ok (muD s'.length) (s' ++ [ds])
theorem de_mu (h : DL T X W (rOw (ct T X)) e ml) : DE T X W e (mMu ml) := pe_imp h fun σ H Q q => by
  obtain ⟨g, env, s, r, h⟩ := q
  refine ⟨g.re H, env, s, r.re, R.sat_mono (R.sat_bind h) (fun ds s' q g' v H' t sr ro => ?_) fun x s' q g' c dx H' t sr xr => q ⟨g'.F, g'.am, g.nd⟩ c dx H' t.back (sr.back t r.toSR) xr⟩
  obtain ⟨a, vs, rfl, hH, hF, ha, hn, l⟩ := ro
  have hv : Vac H a := by
    rw [t.nd] at hn
    exact Classical.byContradiction fun z => hn z
  have pr : Pre g'.am (g'.am ++ [a]) := ⟨[a], rfl⟩
  have last : (g'.am ++ [a])[s'.length]? = some a := by rw [← sr.len]; simp
  refine q ⟨g'.F, g'.am ++ [a], g.nd⟩ (.ref a) H' ⟨t.F, t.am.trans pr, t.Fn, fun b hb => ?_, t.kp, t.dm, rfl⟩ ?_ (.mu last)
  · rcases List.mem_append.mp hb with hb | hb
    · exact t.an b hb
    · rw [List.mem_singleton.mp hb]; exact .inr hv
  · refine ⟨sr.sub, by simp [sr.len], ?_, fun n es hn => ?_, sr.tab, fun b hb z => r.ndo b hb (t.dm b z), sr.nt⟩
    · exact List.nodup_append.mpr ⟨sr.nd, by simp, fun b hb c hc e => ha (by rw [List.mem_singleton.mp hc] at e; rw [← e]; exact hb)⟩
    · by_cases z : n < s'.length
      · rw [List.getElem?_append_left z] at hn
        obtain ⟨b, ws, h1, h2, h3, h4⟩ := sr.st n es hn
        exact ⟨b, ws, pr.get h1, h2, h3, h4.mono (.refl _) pr⟩
      · have e : n = s'.length := by
          have := (List.getElem?_eq_some_iff.mp hn).1
          simp at this
          omega
        subst e
        rw [List.getElem?_append_right (Nat.le_refl _), Nat.sub_self] at hn
        cases hn
        exact ⟨a, vs, last, hH, hF, l.mono (.refl _) pr⟩
end
end Dn

set_option Elab.async false
set_option linter.all false
set_option maxRecDepth 100000
set_option maxHeartbeats 4000000
namespace Dn
open PySem PySem.Spec PyProof.Rows L2
section
variable {T : Tb} {X : Cx} {W : WX} {B : Bs}
/-! ### a op b op c -/
def mChain {α β δ : Type} (f : α → β → S → Option D) (f' : β → δ → S → Option D) (ma : M α) (mb : M β) (mc : M δ) : M D := fun env s => (ma env s).bind fun a s1 => (mb env s1).bind fun b s2 => (R.lift (f a b s2) s2).bind fun k s3 => match k with
  | .bool true => (mc env s3).bind fun c s4 => R.lift (f' b c s4) s4
  | .bool false => .ok (.bool false) s3
  | _ => .bad
variable {α β δ : Type} {Ra : RR α} {Rb : RR β} {Rc : RR δ} {f : α → β → S → Option D} {f' : β → δ → S → Option D} {ma : M α} {mb : M β} {mc : M δ} {a b c : Expr} {pos : Pos} {op op' : CmpOp}
theorem chain_core {r r' : L2.R2} (sa : Stays Ra) (sb : Stays Rb) (hr : ∀ (g : Gh) (s : S) (H : Hp) (x y : V) (a : α) (b : β) (c : D) (Q : VK), SR (ct T X) g s H → Ra g H x a → Rb g H y b → f a b s = some c → Gv (ct T X) (rD (ct T X)) g H Q c s → r x y H Q)
    (hr' : ∀ (g : Gh) (s : S) (H : Hp) (x y : V) (a : β) (b : δ) (c : D) (Q : VK), SR (ct T X) g s H → Rb g H x a → Rc g H y b → f' a b s = some c → Gv (ct T X) (rD (ct T X)) g H Q c s → r' x y H Q)
    (σ : L2.St) (H : Hp) (Q : VK) (h : tD (ct T X) W (mChain f f' ma mb mc) σ H Q) : tChain r r' (tG (ct T X) W Ra ma) (tG (ct T X) W Rb mb) (tG (ct T X) W Rc mc) σ H Q := by
  obtain ⟨g, env, s, rl, h⟩ := h
  refine ⟨g, env, s, rl, R.sat_mono (R.sat_bind h) (fun x1 s1 q1 g1 v H1 t1 sr1 r1 => ?_) fun _ _ q => q⟩
  refine ⟨g1, env, s1, rl.step t1 sr1, R.sat_mono (R.sat_bind q1) (fun x2 s2 q2 g2 u H2 t2 sr2 r2 => ?_) fun _ _ => PX.step t1⟩
  cases e : f x1 x2 s2 with
  | none => rw [e] at q2; exact q2.elim
  | some k =>
    rw [e] at q2
    refine hr g2 s2 H2 v u x1 x2 k _ sr2 (sa _ _ _ _ _ _ t2 r1) r2 e fun g3 kv H3 t3 sr3 dk => ?_
    replace q2 : (match (generalizing := false) k with | .bool true => (mc env s2).bind fun c s4 => R.lift (f' x2 c s4) s4 | .bool false => .ok (.bool false) s2 | _ => .bad : R D).sat (Gv (ct T X) (rD (ct T X)) g H Q) (PX (ct T X) W σ g H) := q2
    cases dk with
    | bl kb =>
      cases kb with
      | true =>
        refine ⟨true, rfl, ?_⟩
        rw [if_pos rfl]
        refine ⟨g3, env, s2, (rl.step t1 sr1).step (t2.trans t3) sr3, R.sat_mono (R.sat_bind q2) (fun x3 s4 q4 g4 w H4 t4 sr4 r4 => ?_) fun _ _ => PX.step (t1.trans (t2.trans t3))⟩
        cases e' : f' x2 x3 s4 with
        | none => rw [e'] at q4; exact q4.elim
        | some k' =>
          rw [e'] at q4
          exact hr' g4 s4 H4 u w x2 x3 k' Q sr4 (sb _ _ _ _ _ _ (t3.trans t4) r2) r4 e' (Gv.step (t1.trans (t2.trans (t3.trans t4))) q4)
      | false =>
        refine ⟨false, rfl, ?_⟩
        rw [if_neg (by decide)]
        exact q2 g3 _ H3 (t1.trans (t2.trans t3)) sr3 (.bl false)
    | _ => exact q2.elim
theorem de_chain (sa : Stays Ra) (sb : Stays Rb) (o : OpD T X Ra Rb (rD (ct T X)) (compareOp op) f) (o' : OpD T X Rb Rc (rD (ct T X)) (compareOp op') f') (ha : PE X a (tG (ct T X) W Ra ma)) (hb : PE X b (tG (ct T X) W Rb mb)) (hc : PE X c (tG (ct T X) W Rc mc))
    (hm : lastMarks [op, op'] [b, c] = false := by with_unfolding_all rfl) : DE T X W (.Compare a [op, op'] [b, c] pos) (mChain f f' ma mb mc) := by
  obtain ⟨r, ho, hr⟩ := o
  obtain ⟨r', ho', hr'⟩ := o'
  exact pe_imp (pe_chain ho ho' ha hb hc hm) (chain_core sa sb hr hr')
theorem dt_chain (sa : Stays Ra) (sb : Stays Rb) (o : OpD T X Ra Rb (rD (ct T X)) (compareOp op) f) (o' : OpD T X Rb Rc (rD (ct T X)) (compareOp op') f') (ha : PE X a (tG (ct T X) W Ra ma)) (hb : PE X b (tG (ct T X) W Rb mb)) (hc : PE X c (tG (ct T X) W Rc mc))
    (hm : lastMarks [op, op'] [b, c] = false := by with_unfolding_all rfl) : DT T X W (.Compare a [op, op'] [b, c] pos) (mTest (mChain f f' ma mb mc)) := by
  obtain ⟨r, ho, hr⟩ := o
  obtain ⟨r', ho', hr'⟩ := o'
  exact pt_imp (pt_chain ho ho' ha hb hc hm) fun σ H Q h => chain_core sa sb hr hr' σ H (fun x H' => ∃ k, x = .bl k ∧ Q k H') (test_core σ H Q h)
end
/-! ### slices -/
def cutL {α : Type} (xs : List α) (lo hi : Option Int) : List α := (xs.drop (HT.sIx xs.length 0 lo)).take (HT.sIx xs.length xs.length hi - HT.sIx xs.length 0 lo)
theorem DenL.cut {C : Ct} {F : Hp} {am : List Addr} {vs : List V} {ds : List D} (l : DenL C F am vs ds) (lo hi : Option Int) : DenL C F am (cutV vs lo hi) (cutL ds lo hi) := by
  unfold cutV cutL
  rw [l.length]
  exact (l.drop _).take _
def tO (C : Ct) (W : WX) (m : M (Option Int)) : TO := fun σ H Q => ∃ g env s, Rel C g env s σ H ∧ (m env s).sat (fun o s' => ∀ g' H', Step g H g' H' → SR C g' s' H' → Q o H') (PX C W σ g H)
def mP0 : M (Option Int) := fun _ s => .ok none s
def mP (m : M D) : M (Option Int) := fun env s => (m env s).bind fun d s' => match d with | .int i => .ok (some i) s' | _ => .bad
def mSl {α γ : Type} (f : α → Option Int → Option Int → S → Option γ) (ma : M α) (ml mh : M (Option Int)) : M γ := fun env s => (ma env s).bind fun a s1 => (ml env s1).bind fun l s2 => (mh env s2).bind fun h s3 => R.lift (f a l h s3) s3
section
variable {T : Tb} {X : Cx} {W : WX} {α γ : Type} {Ra : RR α} {Rr : RR γ} {f : α → Option Int → Option Int → S → Option γ} {ma : M α} {ml mh : M (Option Int)} {e : Expr} {lo hi : Option Expr} {pos p2 : Pos}
abbrev DO (T : Tb) (X : Cx) (W : WX) (e : Option Expr) (m : M (Option Int)) : Prop := PO X e (tO (ct T X) W m)
theorem po_imp {e : Option Expr} {t t' : TO} (h : PO X e t) (k : ∀ σ H Q, t' σ H Q → t σ H Q) : PO X e t' := ⟨fun pins s σ H Q I q => h.run pins s σ H Q I (k σ H Q q)⟩
theorem do_none : DO T X W none mP0 := po_imp po_none fun σ H Q ⟨g, env, s, r, h⟩ => h g H (Step.refl _ _) r.toSR
theorem do_some {e : Expr} {m : M D} (h : DE T X W e m) : DO T X W (some e) (mP m) := po_imp (po_some h) fun σ H Q ⟨g, env, s, r, h⟩ => by
  refine ⟨g, env, s, r, R.sat_mono (R.sat_bind h) (fun d s' q g' v H' t sr dn => ?_) fun _ _ q => q⟩
  cases d with
  | int i => cases dn; exact ⟨i, rfl, q g' H' t sr⟩
  | _ => exact q.elim
def SlD (T : Tb) (X : Cx) (Ra : RR α) (Rr : RR γ) (f : α → Option Int → Option Int → S → Option γ) : Prop :=
  ∃ r, L2.SlR X r ∧ ∀ (g : Gh) (s : S) (H : Hp) (x : V) (a : α) (l h : Option Int) (c : γ) (Q : VK), SR (ct T X) g s H → Ra g H x a → f a l h s = some c → Gv (ct T X) Rr g H Q c s → r x l h H Q
theorem de_slice (sa : Stays Ra) (o : SlD T X Ra Rr f) (ha : PE X e (tG (ct T X) W Ra ma)) (hl : DO T X W lo ml) (hh : DO T X W hi mh) : PE X (.Subscript e (.Slice lo hi none p2) pos) (tG (ct T X) W Rr (mSl f ma ml mh)) := by
  obtain ⟨r, ho, hr⟩ := o
  refine pe_imp (pe_slice ho ha hl hh) fun σ H Q ⟨g, env, s, rl, h⟩ => ?_
  refine ⟨g, env, s, rl, R.sat_mono (R.sat_bind h) (fun x1 s1 q1 g1 v H1 t1 sr1 r1 => ?_) fun _ _ q => q⟩
  refine ⟨g1, env, s1, rl.step t1 sr1, R.sat_mono (R.sat_bind q1) (fun x2 s2 q2 g2 H2 t2 sr2 => ?_) fun _ _ => PX.step t1⟩
  refine ⟨g2, env, s2, (rl.step t1 sr1).step t2 sr2, R.sat_mono (R.sat_bind q2) (fun x3 s3 q3 g3 H3 t3 sr3 => ?_) fun _ _ => PX.step (t1.trans t2)⟩
  cases e : f x1 x2 x3 s3 with
  | none => rw [e] at q3; exact q3.elim
  | some c => rw [e] at q3; exact hr g3 s3 H3 v x1 x2 x3 c Q sr3 (sa _ _ _ _ _ _ (t2.trans t3) r1) e (Gv.step (t1.trans (t2.trans t3)) q3)
/-- of a list, into a new one -/
def oSlL (a : Bool × List D) (l h : Option Int) (_ : S) : Option (List D) := if a.1 = false then some (cutL a.2 l h) else none
theorem sd_lst {Rr : RR (List D)} (N : NewL (ct T X) Rr) : SlD T X (rQ (ct T X)) Rr oSlL :=
  ⟨_, sl_list, fun g s H x a l h c Q sr ra e q => by
    unfold oSlL at e
    obtain ⟨z, rfl⟩ := iteS e
    obtain ⟨p, vs, rfl, ll, k⟩ := ra.at sr.sub
    rcases k with ⟨b, k⟩ | ⟨b, k⟩
    · rw [z] at b; cases b
    · exact ⟨p, vs, rfl, SqL.of k, fun p np => N.new q sr (ll.cut l h) np⟩⟩
/-- of the script's list, a list, a tuple, a text -/
def oSl : D → Option Int → Option Int → S → Option D
  | .tuple ds, l, h, _ => some (.tuple (cutL ds l h))
  | .str z, l, h, _ => if z.length ≤ sizeLine then some (.str (Txt.slice z l h)) else none
  | .list ds, l, h, _ => some (.list (cutL ds l h))
  | .dict [(.int 0, .list ds)], l, h, _ => some (.list (cutL ds l h))
  | _, _, _, _ => none
theorem cutV_all {vs : List V} {l h : Option Int} (e : HT.sIx vs.length 0 l = 0 ∧ HT.sIx vs.length vs.length h = vs.length) : cutV vs l h = vs := by
  unfold cutV
  rw [e.1, e.2]
  simp
theorem sd_any : SlD T X (rD (ct T X)) (rD (ct T X)) oSl :=
  ⟨_, (sl_tupA.or C8.sl_txt).or sl_list, fun g s H x a l h c Q sr ra e q => by
    unfold oSl at e
    split at e
    · cases e
      cases ra with
      | tup k ll =>
        refine .inl (.inl ⟨_, _, rfl, sr.sub.sqT k, fun z => ?_, fun z p np => q.tup sr (ll.cut l h) np⟩)
        refine q.here sr (.tup k ?_)
        have := ll.cut l h
        rw [cutV_all z] at this
        exact this
    · cases ra
      obtain ⟨z, rfl⟩ := iteS e
      exact .inl (.inr ⟨_, rfl, z, q.here sr (.str _)⟩)
    · cases e
      cases ra with
      | lst k ll => exact .inr ⟨_, _, rfl, SqL.of (sr.sub _ _ k), fun p np => q.lst sr (ll.cut l h) np⟩
    · cases e
      cases ra with
      | sc k ll => exact .inr ⟨_, _, rfl, sr.sub.sqL k, fun p np => q.lst sr (ll.cut l h) np⟩
    · cases e⟩
end
/-! ### new lists by operators -/
section
variable {T : Tb} {X : Cx} {W : WX} {Rr : RR (List D)}
def oCatL (a b : Bool × List D) (_ : S) : Option (List D) := if a.1 = false ∧ b.1 = false ∧ a.2.length + b.2.length ≤ sizeLine then some (a.2 ++ b.2) else none
theorem rQ.lst {C : Ct} {g : Gh} {H : Hp} {v : V} {a : Bool × List D} (sub : Sub g.F H) (h : rQ C g H v a) (e : a.1 = false) : ∃ p vs, v = .ref p ∧ DenGL C g vs a.2 ∧ H p = some (.lst vs) := by
  obtain ⟨p, vs, rfl, l, k⟩ := h.at sub
  rcases k with ⟨b, k⟩ | ⟨b, k⟩
  · rw [e] at b; cases b
  · exact ⟨p, vs, rfl, l, k⟩
theorem od_catL (N : NewL (ct T X) Rr) : OpD T X (rQ (ct T X)) (rQ (ct T X)) Rr (binaryOp .Add) oCatL :=
  ⟨_, op_cat, fun g s H x y a b c Q sr ra rb e h => by
    unfold oCatL at e
    obtain ⟨z, rfl⟩ := iteS e
    obtain ⟨p, vs, rfl, l, q⟩ := ra.lst sr.sub z.1
    obtain ⟨p', vs', rfl, l', q'⟩ := rb.lst sr.sub z.2.1
    exact ⟨_, _, _, _, rfl, rfl, q, q', by rw [l.length, l'.length]; exact z.2.2, fun p np => N.new h sr (l.append l') np⟩⟩
def oRepL (a : Bool × List D) (b : D) (_ : S) : Option (List D) := match b with
  | .int k => if a.1 = false ∧ -(2 ^ 63) ≤ k ∧ k < 2 ^ 63 ∧ a.2.length * k.toNat ≤ sizeLine then some (List.replicate k.toNat a.2).flatten else none
  | _ => none
theorem od_repL (N : NewL (ct T X) Rr) : OpD T X (rQ (ct T X)) (rD (ct T X)) Rr (binaryOp .Mult) oRepL :=
  ⟨_, op_rep, fun g s H x y a b c Q sr ra rb e h => by
    unfold oRepL at e
    split at e
    · cases rb
      obtain ⟨z, rfl⟩ := iteS e
      obtain ⟨p, vs, rfl, l, q⟩ := ra.lst sr.sub z.1
      exact ⟨_, _, _, rfl, rfl, q, z.2.1, z.2.2.1, by rw [l.length]; exact z.2.2.2, fun p np => N.new h sr (l.rep _) np⟩
    · cases e⟩
/-! ### list(range(..)) -/
theorem rgV_den {C : Ct} {F : Hp} {am : List Addr} (lo : Int) (n : Nat) : DenL C F am ((List.range n).map fun (i : Nat) => V.int (lo + (i : Int))) (rangeD lo n) := by
  unfold rangeD
  induction List.range n with
  | nil => exact .nil
  | cons x l ih => exact .cons (.int _) ih
def oRgL (a b : D) (_ : S) : Option (List D) := match a, b with
  | .int i, .int j => if -(2 ^ 62) ≤ i ∧ i < 2 ^ 62 ∧ -(2 ^ 62) ≤ j ∧ j < 2 ^ 62 ∧ (j - i).toNat ≤ 2 ^ 24 then some (rangeD i (j - i).toNat) else none
  | _, _ => none
theorem dl_range2 {e e2 : Expr} {m m2 : M D} {p p2 pos pos2 : Pos} (N : NewL (ct T X) Rr) (hc : X.calm = true) (hg : Gl X "list") (hm : X.mg "list" = none) (hg2 : Gl X "range") (hm2 : X.mg "range" = none) (h : DE T X W e m) (h2 : DE T X W e2 m2)
    (na : starEach [e, e2] X.env = (false, eval e X.env) :: starEach [e2] X.env := by rfl) (nb : starEach [e2] X.env = (false, eval e2 X.env) :: starEach [] X.env := by rfl) (hp : (backTo pos2 (starEach [e2] X.env)).any (·.1) = false := by rfl)
    (nc : starEach [.Call (.Name "range" p2) [e, e2] [] pos2] X.env = (false, eval (.Call (.Name "range" p2) [e, e2] [] pos2) X.env) :: starEach [] X.env := by rfl) :
    DL T X W Rr (.Call (.Name "list" p) [.Call (.Name "range" p2) [e, e2] [] pos2] [] pos) (mBin oRgL m m2) :=
  pe_imp (pe_listRg hc hg hm (prg_2 hg2 hm2 h h2 na nb hp) nc) fun σ H Q q => by
    refine tG_imp (op2_core (Ra := rD (ct T X)) (Rb := rD (ct T X)) (r := fun x y H Q => ∃ i j, x = .int i ∧ y = .int j ∧ RgOk i j ∧ ∀ q, H q = none → Q (.ref q) (upd H q (.lst (rgV i j)))) (stays_D _) (fun g s H x y a b c Q sr ra rb e h => ?_) σ H Q q) fun v H1 q1 => q1
    · unfold oRgL at e
      split at e
      · cases ra; cases rb
        obtain ⟨z, rfl⟩ := iteS e
        exact ⟨_, _, rfl, rfl, z, fun p np => N.new h sr (rgV_den _ _) np⟩
      · cases e
def oRgL1 (b : D) (_ : S) : Option (List D) := match b with
  | .int j => if -(2 ^ 62) ≤ j ∧ j < 2 ^ 62 ∧ j.toNat ≤ 2 ^ 24 then some (rangeD 0 j.toNat) else none
  | _ => none
theorem dl_range1 {e : Expr} {m : M D} {p p2 pos pos2 : Pos} (N : NewL (ct T X) Rr) (hc : X.calm = true) (hg : Gl X "list") (hm : X.mg "list" = none) (hg2 : Gl X "range") (hm2 : X.mg "range" = none) (h : DE T X W e m)
    (na : starEach [e] X.env = (false, eval e X.env) :: starEach [] X.env := by rfl)
    (nc : starEach [.Call (.Name "range" p2) [e] [] pos2] X.env = (false, eval (.Call (.Name "range" p2) [e] [] pos2) X.env) :: starEach [] X.env := by rfl) :
    DL T X W Rr (.Call (.Name "list" p) [.Call (.Name "range" p2) [e] [] pos2] [] pos) (mOp1 oRgL1 m) :=
  pe_imp (pe_listRg hc hg hm (prg_1 hg2 hm2 h na) nc) fun σ H Q q => by
    refine tG_imp (op1_core (Ra := rD (ct T X)) (r := fun y H Q => ∃ j, y = .int j ∧ RgOk 0 j ∧ ∀ q, H q = none → Q (.ref q) (upd H q (.lst (rgV 0 j)))) (fun g s H x a c Q sr ra e h => ?_) σ H Q q) fun v H1 q1 => q1
    · unfold oRgL1 at e
      split at e
      · cases ra
        obtain ⟨z, rfl⟩ := iteS e
        refine ⟨_, rfl, ⟨by omega, by omega, z.1, z.2.1, by rw [Int.sub_zero]; exact z.2.2⟩, fun p np => N.new h sr ?_ np⟩
        unfold rgV
        rw [Int.sub_zero]
        exact rgV_den _ _
      · cases e
/-- list(x), into a new one -/
def oLstL (a : Bool × List D) (_ : S) : Option (List D) := some a.2
theorem de_ed {pos : Pos} : DE T X W (.Dict [] [] pos) (mC eD) := pe_imp pe_dnewK fun σ H Q ⟨g, env, s, r, h⟩ p np => h _ _ _ (step_new r.toSR np) (sr_new r.toSR np) (.ed upd_same)
end
end Dn

set_option Elab.async false
set_option linter.all false
set_option maxRecDepth 100000
set_option maxHeartbeats 4000000
namespace Dn
open PySem PySem.Spec PyProof.Rows L2
/-! ### methods of lists and tuples -/
def mMeth {α β γ : Type} (ok : α → Bool) (f : α → β → S → Option γ) (ma : M α) (mb : M β) : M γ := fun env s => (ma env s).bind fun a s1 => if ok a = true then (mb env s1).bind fun b s2 => R.lift (f a b s2) s2 else .bad
section
variable {T : Tb} {X : Cx} {W : WX} {α β γ : Type} {Ra : RR α} {Rb : RR β} {Rr : RR γ} {ok : α → Bool} {f : α → β → S → Option γ} {ma : M α} {mb : M β} {o e : Expr}
def MtD (T : Tb) (X : Cx) (Ra : RR α) (Rb : RR β) (Rr : RR γ) (Tn id : String) (ok : α → Bool) (f : α → β → S → Option γ) : Prop :=
  (∀ (g : Gh) (s : S) (H : Hp) (x : V) (a : α), SR (ct T X) g s H → Ra g H x a → ok a = true → tyV X.K Tn x H) ∧
  ∃ r, MtR X id r ∧ ∀ (g : Gh) (s : S) (H : Hp) (x y : V) (a : α) (b : β) (c : γ) (Q : VK), SR (ct T X) g s H → Ra g H x a → Rb g H y b → ok a = true → f a b s = some c → Gv (ct T X) Rr g H Q c s → r x [y] H Q
theorem de_meth1 {Tn id : String} {name : Str} {apos cpos : Pos} (sa : Stays Ra) (pa : PlainAttrs Tn) (slot : Slot Tn name id) (hty : typeOf (.builtin id) = pure (.type "method_descriptor")) (o1 : MtD T X Ra Rb Rr Tn id ok f) (ho : PE X o (tG (ct T X) W Ra ma)) (ha : PE X e (tG (ct T X) W Rb mb))
    (hbase : attributeBase o name X.env (eval o X.env) = eval o X.env := by rfl)
    (hfew : ((backTo cpos (starEach [e] X.env)).all (fun x => !x.1) && (backToKw cpos (keywordEach [] X.env)).all (fun x => x.1.isSome)
      && decide ([e].length + ([] : List Keyword).length + (if ([] : List Keyword).isEmpty then 0 else 1) < 30)) = true := by rfl)
    (hline : (apos.endLine == cpos.line) = true := by rfl) (hs : starEach [e] X.env = (false, eval e X.env) :: starEach [] X.env := by rfl) (hplain : (backTo cpos (starEach [] X.env)).any (·.1) = false := by rfl) :
    PE X (.Call (.Attribute o name apos) [e] [] cpos) (tG (ct T X) W Rr (mMeth ok f ma mb)) := by
  obtain ⟨h1, r, h2, h3⟩ := o1
  refine pe_imp (pe_bm pa slot hty h2 ho (pa_cons ha pa_nil hs) hbase hfew hline hs hplain) fun σ H Q h => ?_
  refine tG_imp (tG_bind (R1 := Ra) (m := ma) (k := fun a env s1 => if ok a = true then (mb env s1).bind fun b s2 => R.lift (f a b s2) s2 else .bad) h) fun v H1 ⟨g1, env, s1', a, rel, ra, q⟩ => ?_
  by_cases z : ok a = true
  · rw [if_pos z] at q
    refine ⟨h1 g1 s1' H1 v a rel.toSR ra z, g1, env, s1', rel, R.sat_mono (R.sat_bind q) (fun b s2 q2 g2 w H2 t sr rb => ?_) fun _ _ q => q⟩
    cases e : f a b s2 with
    | none => rw [e] at q2; exact q2.elim
    | some c =>
      rw [e] at q2
      exact h3 g2 s2 H2 v w a b c Q sr (sa _ _ _ _ _ _ t ra) rb z e (Gv.step t q2)
  · rw [if_neg z] at q; exact q.elim
def isL (a : Bool × List D) : Bool := !a.1
theorem isL_ty {g : Gh} {s : S} {H : Hp} {x : V} {a : Bool × List D} (sr : SR (ct T X) g s H) (ra : rQ (ct T X) g H x a) (z : isL a = true) : tyV X.K "list" x H := by
  obtain ⟨p, vs, rfl, l, k⟩ := ra.lst sr.sub (by simpa [isL] using z)
  exact own_ty k
/-- l.count(x) -/
def oCount (a : Bool × List D) (b : D) (_ : S) : Option D := if SeqAt.shaped (.list a.2) = true ∧ SeqAt.shaped b = true then some (.int (a.2.countP fun y => PyData.eqv y b)) else none
theorem shaped_list {ds : List D} (h : SeqAt.shaped (.list ds) = true) : PyData.hasDictAll ds = false := by
  have := noDict_of h
  simpa [PyData.hasDict] using this
theorem md_count (hu : X.A.units + 150 < cLine) : MtD T X (rQ (ct T X)) (rD (ct T X)) (rD (ct T X)) "list" "list.count" isL oCount :=
  ⟨fun g s H x a sr ra z => isL_ty sr ra z, fun x xs H Q => ∃ (a : Addr) (y : V) (d : PyData) (ds : List PyData), x = V.ref a ∧ xs = [y] ∧ Dp X.K H (V.ref a) (.list ds) ∧ Dp X.K H y d ∧ SeqAt.shaped (.list ds) = true ∧ SeqAt.shaped d = true ∧ Q (.int (ds.countP fun y => PyData.eqv y d)) H, fun pins s σ H x xs v us Q I rx rxs h => by
    obtain ⟨a, y, d, ds, rfl, rfl, hl, hy, sl, sd, q⟩ := h
    cases rx
    obtain ⟨uy, rfl, ry⟩ := rxs.one
    obtain ⟨bs, r1⟩ := Dp.reads I d y uy hy ry
    have hxs : PyData.canLayAll0 ds = true := SeqAt.canLay_of_shaped sl
    have hroom : X.A.units + 1 + min (PyData.depthAll ds) d.depth < cLine := room_in_shaped sd (by omega)
    cases hl with
    | lst hs ha =>
      obtain ⟨its, rv, ⟨⟨cls, dd, data, sls⟩, n, ho, hc, hdn, hdt⟩, hlen⟩ := I.list hs
      simp only at hc hdt
      obtain ⟨as, h4⟩ := Dp.readsAll I ds _ its ha rv
      exact SeqAt.count_list_data (vs := its.toArray) ⟨_, ho, hc, n, hdt⟩ (by simpa using h4) r1 (PyData.plainAll_of_canLay0 ds hxs) (PyData.plain_of_canLay0 d (SeqAt.canLay_of_shaped sd)) hroom ⟨.int _, H, I.tok _, ⟨_, rfl⟩, q⟩,
  fun g s H x y a b c Q sr ra rb z e h => by
    unfold oCount at e
    obtain ⟨z2, rfl⟩ := iteS e
    have dp := DenL.dpAll sr ra (shaped_list z2.1)
    rw [if_neg (by have : a.1 = false := by simpa [isL] using z
                   rw [this]; decide)] at dp
    obtain ⟨p, vs, rfl, l, k⟩ := ra.lst sr.sub (by simpa [isL] using z)
    exact ⟨p, y, b, a.2, rfl, rfl, dp, Den.dp rfl sr.sub (noDict_of z2.2) rb, z2.1, z2.2, h.here sr (.int _)⟩⟩
/-- l.index(x), x in l -/
def oIndex (a : Bool × List D) (b : D) (_ : S) : Option D := if SeqAt.shaped (.list a.2) = true ∧ SeqAt.shaped b = true then (a.2.findIdx? fun y => PyData.eqv y b).map fun (j : Nat) => .int (j : Int) else none
theorem md_index (hu : X.A.units + 150 < cLine) : MtD T X (rQ (ct T X)) (rD (ct T X)) (rD (ct T X)) "list" "list.index" isL oIndex :=
  ⟨fun g s H x a sr ra z => isL_ty sr ra z, _, mt_indexD (by omega), fun g s H x y a b c Q sr ra rb z e h => by
    unfold oIndex at e
    by_cases z2 : SeqAt.shaped (.list a.2) = true ∧ SeqAt.shaped b = true
    · rw [if_pos z2] at e
      cases ej : a.2.findIdx? (fun y => PyData.eqv y b) with
      | none => rw [ej] at e; cases e
      | some j =>
        rw [ej] at e
        cases e
        have dp := DenL.dpAll sr ra (shaped_list z2.1)
        rw [if_neg (by have : a.1 = false := by simpa [isL] using z
                       rw [this]; decide)] at dp
        obtain ⟨p, vs, rfl, l, k⟩ := ra.lst sr.sub (by simpa [isL] using z)
        obtain ⟨hj, h1, h2⟩ := List.findIdx?_eq_some_iff_getElem.mp ej
        refine ⟨p, y, b, a.2, j, a.2[j], rfl, rfl, dp, Den.dp rfl sr.sub (noDict_of z2.2) rb, z2.1, z2.2, List.getElem?_eq_getElem hj, h1, fun m z' hm hz => ?_, h.here sr (.int _)⟩
        have hml : m < a.2.length := by omega
        rw [List.getElem?_eq_getElem hml] at hz
        have := h2 m hm
        rw [← Option.some.inj hz]
        simpa using this
    · rw [if_neg z2] at e; cases e⟩
end
/-! ### a def held in a local name -/
structure HeldG (T : Tb) (X : Cx) (k n : Nat) (y : Str) (mf : Mf) : Prop where
  ex : ∃ (f : Addr) (fd : FuncData) (ps : List Str), X.mg y = some (.ref f) ∧ FnG X.prog X.w X.K X.mg X.base false k f fd ps (spM (ct T X) (List.replicate n false) mf) ∧ PySem.W.keepIn X.K (.ref f) = true ∧ Binds X.K fd ps []
def mCallL (i : Nat) (tab : List (Str × Mf)) (ma : M (List D)) : M D := fun env s => match env[i]? with
  | some (Sl.fz (.dict [(.none, .str y)])) => match tab.lookup y with
    | some mf => mCall mf ma env s
    | none => .bad
  | _ => .bad
section
variable {T : Tb} {X : Cx} {W : WX} {k n i : Nat} {x : Str} {p pos : Pos} {e : Expr} {es : List Expr} {ma : M (List D)} {tab : List (Str × Mf)}
theorem de_callL {rp : Bool} (hT : ∀ y mf, tab.lookup y = some mf → HeldG T X k n y mf) (hr : Room k X.A) (A : At T X W rp) (hN : X.N[i]? = some x) (hv : Vis X.env.scope x) (ha : DA T X W (e :: es) (List.replicate n false) ma)
    (hdb : (x == ("__debug__" : Str)) = false := by decide) (hcd : (x == ("__classdict__" : Str)) = false := by decide)
    (he : starEach (e :: es) X.env = (false, eval e X.env) :: starEach es X.env := by rfl) (hpl : (backTo pos (starEach es X.env)).any (·.1) = false := by rfl) : DE T X W (.Call (.Name x p) (e :: es) [] pos) (mCallL i tab ma) := by
  refine ⟨fun pins s σ H Q I h => ?_⟩
  obtain ⟨g, env, s0, r, h⟩ := h
  unfold mCallL at h
  split at h
  · rename_i y e0
    split at h
    · rename_i mf e1
      obtain ⟨f, fd, ps, hm, F, hk, hb⟩ := (hT y mf e1).ex
      obtain ⟨v, ev, dv⟩ := r.sl i _ e0
      cases dv with
      | fn hm' =>
        rename_i f'
        have hm2 : X.mg y = some (.ref f') := hm'
        rw [hm] at hm2
        cases hm2
        refine wpAny_Call_Name_kw (thn ((pe_var (pos := p) hN hv hdb hcd).run pins s σ H (fun v H1 => v = .ref f ∧ H1 = H) I ⟨.ref f, ev, rfl, rfl⟩) fun u s1 ⟨v, H1, I1, r1, q1⟩ => ?_)
        obtain ⟨rfl, rfl⟩ := q1
        cases r1
        refine PySem.W.callWith_K (h₀ := X.base) I.ok.mod.kin hk (thn (ha.run pos pins s1 σ _ _ I1 (call_core (mf := mf) ⟨g, env, s0, r, h⟩)) fun us s2 ⟨vs, H2, I2, r2, q2⟩ => ⟨I2.kIn, ?_⟩) he hpl
        exact run_G F hr A (fun z => by cases z) hb I2 r2 q2
    · exact h.elim
  · exact h.elim
end
end Dn

set_option Elab.async false
set_option linter.all false
set_option maxRecDepth 100000
set_option maxHeartbeats 4000000
/-! the end of a law: the law's def is called with the script -/
namespace Dn
open PySem PySem.Spec PyProof.Rows L2 LamX
/-- what is tracked at the start: the tables, and the script unless the frozen part of the program holds it -/
noncomputable def H00 (K : PySem.W.Frag) (ts : List Addr) (a : Addr) (o : Obj) (u : HO) : Hp := fun b =>
  if b ∈ ts then some (.tbl #[]) else if b = a ∧ K.lookup a = none then some (.frz o u) else none
section
variable {K : PySem.W.Frag} {ts : List Addr} {a : Addr} {o : Obj} {u : HO}
theorem h00_t {b : Addr} (h : b ∈ ts) : H00 K ts a o u b = some (.tbl #[]) := if_pos h
theorem h00_a (n : a ∉ ts) (h : K.lookup a = none) : H00 K ts a o u a = some (.frz o u) := (if_neg n).trans (if_pos ⟨rfl, h⟩)
theorem h00_cases {b : Addr} {v : HO} (h : H00 K ts a o u b = some v) : (b ∈ ts ∧ v = .tbl #[]) ∨ (b ∉ ts ∧ b = a ∧ K.lookup a = none ∧ v = .frz o u) := by
  unfold H00 at h
  by_cases h1 : b ∈ ts
  · rw [if_pos h1] at h; exact .inl ⟨h1, (Option.some.inj h).symm⟩
  · rw [if_neg h1] at h
    by_cases h2 : b = a ∧ K.lookup a = none
    · rw [if_pos h2] at h; exact .inr ⟨h1, h2.1, h2.2, (Option.some.inj h).symm⟩
    · rw [if_neg h2] at h; cases h
end
/-- what must be known at the head's heap -/
structure Head0 (K : PySem.W.Frag) (mg mb : Str → Option Value) (h : Heap) (cs : List (Addr × Addr)) : Prop where
  k : K.In h
  g : h.Ns mainGlobals mg
  b : h.Ns builtinsNs mb
  bb : ∀ x : Str, x ≠ "__name__" → mb x = bootBuiltins x
  lim : h.NoLimit
  t : ∀ p ∈ cs, h.get? p.2 = some { cls := .none, data := .fields #[] }
  nt : ∀ p ∈ cs, K.lookup p.2 = none
  c : ∀ p ∈ cs, PySem.W.CodeHd h p.1 p.2
  bm : ∃ (bm : Addr) (ob : Obj), mg "__builtins__" = some (.ref bm) ∧ bm ≠ builtinsNs ∧ h.get? bm = some ob ∧ ob.cls = .type "module" ∧ ob.dict = some builtinsNs ∧ ob.data = .plain
theorem run_law {P : Program} {w : World} {K : PySem.W.Frag} {mg mb : Str → Option Value} {k : Nat} {fa a : Addr} {cs : List (Addr × Addr)} {fd : FuncData} {x : Str} {sp : Sp} {s₁ : Shared} {vs : List Value} {ns : List Int} (hd : Head0 K mg mb s₁.heap cs) (hg : s₁.gens = #[])
    (ha : s₁.heap.get? a = some { cls := .type "list", data := .seq vs.toArray }) (hi : IntsAre vs ns) (hl : ns.length ≤ sizeLine) (hr : Room k callerA)
    (F : ∀ base : Heap, K.In base → base.Ns mainGlobals mg → (∀ p ∈ cs, TabB base mg p.1 p.2) → FnG P w K mg base true k fa fd [x] sp) (hbind : ∀ (s : Shared) (u : Value), BindsTo s fd ⟨[u], []⟩ [(x, u)])
    (hsp : ∀ H : Hp, (∀ p ∈ cs, H p.2 = some (.tbl #[])) → SqL K H a (ns.map V.int) → sp [.ref a] H (fun v _ => v = .bl true) fun _ _ _ => False) :
    codeAny (model P w) callerA (.call (.ref fa) ⟨[.ref a], []⟩) (fun r s' => r = .ok (.ret (.bool true)) ∧ OldK s₁.heap s'.heap ∧ s'.os = s₁.os ∧ AllBare s'.gens) s₁ := by
  let ts : List Addr := cs.map (·.2)
  let scr : Obj := { cls := .type "list", data := .seq vs.toArray }
  let H : Hp := H00 K ts a scr (.lst (ns.map V.int))
  have rv := vals_ints hi
  have lenV := hi.length
  have tget : ∀ {b : Addr}, b ∈ ts → ∃ p ∈ cs, p.2 = b := fun h => List.mem_map.mp h
  have tobj : ∀ {b : Addr}, b ∈ ts → s₁.heap.get? b = some { cls := .none, data := .fields #[] } := fun h => by
    obtain ⟨p, hp, rfl⟩ := tget h
    exact hd.t p hp
  have na : a ∉ ts := fun h => by
    have q := tobj h
    rw [ha] at q
    cases q
  have HT : ∀ p ∈ cs, H p.2 = some (.tbl #[]) := fun p hp => h00_t (List.mem_map.mpr ⟨p, hp, rfl⟩)
  have HS : SqL K H a (ns.map V.int) := by
    cases hk : K.lookup a with
    | none => exact .inl (.inr ⟨scr, h00_a na hk⟩)
    | some o =>
      have e := hd.k a o hk
      rw [ha] at e
      cases e
      exact .inr ⟨_, vs.toArray, _, hk, rfl, rfl, rfl, by rw [List.size_toArray, lenV]; exact hl, by simpa using rv⟩
  -- an object that is neither a script nor an empty table is not tracked
  have off : ∀ {b : Addr} {o : Obj}, s₁.heap.get? b = some o → (∀ xs n, o.data ≠ .seq xs n) → o.data ≠ .fields #[] → H b = none := fun {b o} e h1 h2 => by
    cases q : H b with
    | none => rfl
    | some v =>
      rcases h00_cases q with ⟨m, _⟩ | ⟨_, rfl, _, _⟩
      · rw [tobj m] at e; cases e; exact (h2 rfl).elim
      · rw [ha] at e; cases e; exact (h1 _ _ rfl).elim
  have offD : ∀ {b : Addr} {o : Obj} {es : Array DictEntry} {ep : Nat}, s₁.heap.get? b = some o → o.data = .dict es ep → H b = none := fun e d => off e (fun xs n z => by rw [d] at z; cases z) fun z => by rw [d] at z; cases z
  have nsB : ∀ {b : Addr} {m : Str → Option Value}, s₁.heap.Ns b m → (hidT s₁.heap H).Ns b m := fun ⟨o, es, ep, e, d, r⟩ => ⟨o, es, ep, hidT_get e (offD e d), d, r⟩
  have kB : K.In (hidT s₁.heap H) := fun b o e => hidT_get (hd.k b o e) (by
    cases q : H b with
    | none => rfl
    | some v =>
      rcases h00_cases q with ⟨m, _⟩ | ⟨_, rfl, n, _⟩
      · obtain ⟨p, hp, rfl⟩ := tget m
        rw [hd.nt p hp] at e; cases e
      · rw [n] at e; cases e)
  have TB : ∀ p ∈ cs, TabB (hidT s₁.heap H) mg p.1 p.2 := fun p hp => by
    have hTp := hd.t p hp
    constructor
    · obtain ⟨o, us, file, tf, flags, tg, inF, text, tt, e1, r1, r2, r3, rest⟩ := hd.c p hp
      refine ⟨o, us, file, tf, flags, tg, inF, text, tt, hidT_get e1 (off e1 (fun xs n z => ?_) fun z => ?_), r1, r2, r3, rest⟩
      · rw [r2] at z; cases z
      · rw [r2] at z
        cases z
        simp at r3
    · obtain ⟨bm, ob, b1, b2, b3, b4, b5, b6⟩ := hd.bm
      refine ⟨bm, ob, b1, b2, fun q => ?_, fun q => ?_, hidT_get b3 (off b3 (fun xs n z => ?_) fun z => ?_), b4, b5, b6⟩
      · obtain ⟨o, es, ep, e, hdd, _⟩ := hd.g
        rw [q, e] at b3
        cases b3
        rw [hdd] at b6
        cases b6
      · rw [q, hTp] at b3
        cases b3
        cases b6
      · rw [b6] at z; cases z
      · rw [b6] at z; cases z
    · intro z
      obtain ⟨o, es, ep, e, hdd, _⟩ := hd.g
      rw [z, hTp] at e
      cases e
      cases hdd
  have hok : HOk P w H s₁.heap := fun b v q => by
    rcases h00_cases q with ⟨m, rfl⟩ | ⟨_, rfl, _, rfl⟩
    · exact tobj m
    · exact ⟨ha, by rw [List.length_map]; exact hl, vs, _, rv, ha⟩
  have e0 : Env0 P w K mg (hidT s₁.heap H) callerA [] s₁ H :=
    ⟨rfl, ⟨kB, nsB hd.g, ⟨mb, nsB hd.b, hd.bb⟩, let ⟨mc, h1, h2⟩ := hd.lim; ⟨mc, nsB h1, h2⟩⟩, fun b o e => of_hidT e, Nat.le_of_eq (hidT_size _ _), trivial, fun b hb => absurd (show b ∈ ([] : List Addr) from hb) (by simp), hok, .of_eq hg⟩
  refine codeAny_mono ((F _ kB (nsB hd.g) TB).run callerA [] s₁ H ⟨[.ref a], []⟩ [.ref a] [.ref a] _ _ hr (fun _ => rfl) e0 (hbind s₁ (.ref a)) (.cons rfl .nil) (hsp H HT HS)) fun r s' h => ?_
  match r, h with
  | .error e, h =>
    obtain ⟨_, _, _, _, _, _, _, _, _, _, _, _, z⟩ := h
    exact z.elim
  | .ok (.ret w'), h =>
    obtain ⟨v, H', os, bare, un, hok', r', rfl⟩ := h
    obtain rfl : w' = Value.bool true := r'
    have keep : ∀ b o, b ∉ ts → s₁.heap.get? b = some o → s'.heap.get? b = some o := fun b o nb e => by
      cases q : H b with
      | none => exact un.keep b o e q (fun z => absurd (show b ∈ ([] : List Addr) from z) (by simp)) (by simp)
      | some v =>
        rcases h00_cases q with ⟨m, _⟩ | ⟨_, rfl, _, rfl⟩
        · exact absurd m nb
        · obtain ⟨e2, _⟩ := hok' b _ (un.frzs b scr _ q)
          rw [ha] at e
          cases e
          exact e2
    have grown : ∀ p ∈ cs, ∃ more : Array Value, s'.heap.get? p.2 = some { cls := .none, data := .fields more } := fun p hp => by
      obtain ⟨more, z⟩ := un.tbls p.2 #[] (HT p hp)
      exact ⟨_, hok' p.2 _ z⟩
    refine ⟨rfl, ⟨fun b o e => ?_, fun b o e => ?_⟩, os, bare⟩
    · by_cases m : b ∈ ts
      · obtain ⟨p, hp, rfl⟩ := tget m
        obtain ⟨more, hm⟩ := grown p hp
        rw [hd.t p hp] at e
        cases e
        exact .inr (.inl ⟨((hd.c p hp).tab (hd.t p hp)).isCodeTable, rfl, #[], more, rfl, by rw [Array.empty_append]; exact hm⟩)
      · exact .inl (keep b o m e)
    · by_cases m : b ∈ ts
      · obtain ⟨p, hp, rfl⟩ := tget m
        obtain ⟨more, hm⟩ := grown p hp
        exact ⟨_, hm⟩
      · exact ⟨o, keep b o m e⟩
/-- the script as data -/
abbrev scOf (ns : List Int) : D := scD (ns.map .int)
/-- what the law's def makes of each script: True -/
def LawMf (n : Nat) (mf : Mf) : Prop := ∀ ns : List Int, ns.length ≤ n → (∀ z ∈ ns, Builtin.Int.intBits z ≤ 1048576) → ∃ s', mf [scOf ns] [] = .ok (.bool true) s'
theorem law_sp {C : Ct} {n : Nat} {mf : Mf} (L : LawMf n mf) {cs : List (Addr × Addr)} (hT : ∀ p ∈ C.T, p.1 ∈ cs.map (·.2)) {H : Hp} {a : Addr} {ns : List Int} (hl : ns.length ≤ n) (hb : ∀ z ∈ ns, Builtin.Int.intBits z ≤ 1048576) (H0 : ∀ p ∈ cs, H p.2 = some (.tbl #[])) (hS : SqL C.K H a (ns.map V.int)) :
    spM C [false] mf [.ref a] H (fun v _ => v = .bl true) fun _ _ _ => False := by
  let F : Hp := fun b => match H b with | some (.tbl _) => none | o => o
  have sub : Sub F H := fun b o e => by
    show H b = some o
    have e : (match H b with | some (.tbl _) => none | o => o) = some o := e
    split at e
    · cases e
    · exact e
  have nt : ∀ b ps, F b ≠ some (.tbl ps) := fun b ps e => by
    have e : (match H b with | some (.tbl _) => none | o => o) = some (.tbl ps) := e
    split at e
    · cases e
    · rename_i h
      exact h _ e
  have hF : ∀ b o, H b = some o → (∀ ps, o ≠ .tbl ps) → F b = some o := fun b o e n => by
    show (match H b with | some (.tbl _) => none | o => o) = some o
    rw [e]
    split
    · rename_i h
      exact absurd (Option.some.inj h) (n _)
    · rfl
  have sq : SqL C.K F a (ns.map V.int) := by
    rcases hS with (h | ⟨o, h⟩) | h
    · exact .inl (.inl (hF _ _ h (fun ps z => by cases z)))
    · exact .inl (.inr ⟨o, hF _ _ h (fun ps z => by cases z)⟩)
    · exact .inr h
  have sr : SR C ⟨F, [], fun _ => False⟩ [] H :=
    ⟨sub, rfl, List.nodup_nil, fun k ds e => by simp at e, fun p hp => by
      obtain ⟨q, hq, e⟩ := List.mem_map.mp (hT p hp)
      exact TabS.nil (by rw [← e]; exact H0 q hq), fun b h => h.elim, nt⟩
  obtain ⟨s', e⟩ := L ns hl hb
  refine ⟨⟨F, [], fun _ => False⟩, [scOf ns], [], sr, .val (.sc sq (DenL.ofInts ns)) .nil, ?_⟩
  rw [e]
  intro g' v H' _ _ dn
  cases dn
  rfl
/-- what is known at the head's heap -/
def LawAtG (l : PySem.W.OpenLaw) (w : World) (K : PySem.W.Frag) (k n : Nat) (x : Str) (mg : Str → Option Value) (fa : Addr) (h : Heap) : Prop :=
  ∃ (fd : FuncData) (cs : List (Addr × Addr)) (T : Tb) (mf : Mf), (∀ p ∈ cs, h.get? p.2 = some { cls := .none, data := .fields #[] }) ∧ (∀ p ∈ cs, K.lookup p.2 = none) ∧ (∀ p ∈ cs, PySem.W.CodeHd h p.1 p.2) ∧ (∀ (s : Shared) (u : Value), BindsTo s fd ⟨[u], []⟩ [(x, u)]) ∧
    (∀ p ∈ T.T, p.1 ∈ cs.map (·.2)) ∧ LawMf n mf ∧
    ∀ base : Heap, K.In base → base.Ns mainGlobals mg → (∀ p ∈ cs, TabB base mg p.1 p.2) → FnG l.prog w K mg base true k fa fd [x] (spM ⟨K, mg, T.T, T.rv⟩ [false] mf)
theorem walk_law {l : PySem.W.OpenLaw} {n k : Nat} {q : Program} {loose : List Str} {XP : (Str → Option Value) → Heap → Prop} {YP : World → Heap → Prop} {d : DefRec} {K : Params → PySem.W.Frag} {x : Str}
    (hn : l.most = some n) (hn2 : n ≤ sizeLine) (hdf : d.params.defaults = []) (hr : Room k callerA) (hY : ∀ (w : World) (h : Heap), YP w h → (K w.params).In h)
    (F : ∀ (w : World) (mg mb : Str → Option Value) (fa : Addr) (s₀ s₁ : Shared), PySem.W.Ground q loose [] XP w s₀ mg mb s₁.heap → YP w s₁.heap → (K w.params).In s₁.heap → mg d.name = some (.ref fa) → LawAtG l w (K w.params) k n x mg fa s₁.heap) :
    PySem.W.WalkO q loose XP YP l.row.toRowW d [] (fun f vs => PySem.call f vs) := by
  refine Att.attach_callB hn hdf fun w s₀ s₁ mg mb fa o pm cd doc a vs ns G Y ho hd hcd hmg hobj hints hlen hbits hg => ?_
  have KX := hY w _ Y
  obtain ⟨fd, cs, T, mf, hT, nT, C, hb, hts, L, hF⟩ := F w mg mb fa s₀ s₁ G Y KX hmg
  exact run_law (sp := spM ⟨K w.params, mg, T.T, T.rv⟩ [false] mf) ⟨KX, G.T.g, G.T.b, G.T.builtins, G.T.nolimit, hT, nT, C, G.T.bmain⟩ hg hobj hints (Nat.le_trans hlen hn2) hr hF hb (fun H h0 hS => law_sp (C := ⟨K w.params, mg, T.T, T.rv⟩) L hts hlen hbits h0 hS)
end Dn

set_option Elab.async false
set_option linter.all false
set_option maxRecDepth 100000
set_option maxHeartbeats 4000000
namespace Dn
open PySem PySem.Spec PyProof.Rows L2
/-! ### a list of one's own is handed on: it is frozen -/
def frzE (i : Nat) (env : En) : En := match env[i]? with
  | some (.ow ds) => env.set i (.fz (.list ds))
  | _ => env
def mFrz (i : Nat) (m : Ms) : Ms := fun env s => m (frzE i env) s
section
variable {C : Ct} {W : WX} {B : Bs} {g : Gh} {H : Hp} {env : En} {s : S} {σ : L2.St} {E : Ends}
theorem RelS.frz (r : RelS C B g env s σ H) (i : Nat) : ∃ g', RelS C B g' (frzE i env) s σ H := by
  unfold frzE
  split
  · rename_i ds e
    obtain ⟨a, vs, e1, hH, hF, ha, l⟩ := r.sl i _ e
    have fr : Sub g.F (upd g.F a (.lst vs)) := sub_freeze hF
    have at' : ∀ j x, (env.set i (.fz (.list ds)))[j]? = some x → (j = i ∧ x = .fz (.list ds)) ∨ (j ≠ i ∧ env[j]? = some x) := fun j x h => by
      by_cases q : j = i
      · subst q
        have hi : j < env.length := (List.getElem?_eq_some_iff.mp e).1
        rw [List.getElem?_set_self hi] at h
        exact .inl ⟨rfl, (Option.some.inj h).symm⟩
      · rw [List.getElem?_set_ne (Ne.symm q)] at h
        exact .inr ⟨q, h⟩
    have ow : ∀ j b, OwAt (env.set i (.fz (.list ds))) σ j b → j ≠ i ∧ OwAt env σ j b := fun j b ⟨⟨es, h1⟩, h2⟩ => by
      rcases at' j _ h1 with ⟨_, z⟩ | ⟨n, z⟩
      · cases z
      · exact ⟨n, ⟨es, z⟩, h2⟩
    have ad : ∀ j b, AdAt (env.set i (.fz (.list ds))) σ j b → AdAt env σ j b := fun j b ⟨⟨es, h1⟩, h2⟩ => by
      rcases h1 with h1 | h1
      · rcases at' j _ h1 with ⟨_, z⟩ | ⟨n, z⟩
        · cases z
        · exact ⟨⟨es, .inl z⟩, h2⟩
      · rcases at' j _ h1 with ⟨_, z⟩ | ⟨n, z⟩
        · cases z
        · exact ⟨⟨es, .inr z⟩, h2⟩
    refine ⟨⟨upd g.F a (.lst vs), g.am, g.nd⟩, { sr_freeze r.toSR hH hF ha with slen := by rw [List.length_set]; exact r.slen, sl := fun j x h => ?_, ap := fun j k b h1 h2 => r.ap j k b (ow j b h1).2 (ad k b h2), stp := step_freeze r.stp (r.nw i a ⟨⟨ds, e⟩, e1⟩) hF, nw := fun j b h => r.nw j b (ow j b h).2, fb := r.fb.trans fr, fa := r.fa }⟩
    rcases at' j x h with ⟨rfl, rfl⟩ | ⟨n, z⟩
    · exact ⟨_, e1, .lst upd_same (l.mono fr (.refl _))⟩
    · have k := r.sl j x z
      cases x with
      | un => trivial
      | rv => exact k
      | fz d => obtain ⟨v, b, c⟩ := k; exact ⟨v, b, c.mono fr (.refl _)⟩
      | ow es =>
        obtain ⟨b, ws, h1, h2, h3, h4, h5⟩ := k
        have ne : b ≠ a := fun q => n (r.ap j i a ⟨⟨es, z⟩, by rw [← q]; exact h1⟩ ⟨⟨ds, .inl e⟩, e1⟩)
        exact ⟨b, ws, h1, h2, by show upd g.F a _ b = none; rw [upd_ne ne]; exact h3, h4, h5.mono fr (.refl _)⟩
      | sh es =>
        obtain ⟨b, ws, h1, h2, h3⟩ := k
        refine ⟨b, ws, h1, h2.mono fr (.refl _), ?_⟩
        rcases h3 with h3 | ⟨h3, h4, h5⟩
        · exact .inl (fr _ _ h3)
        · by_cases ne : b = a
          · exact absurd (r.ap i j a ⟨⟨ds, e⟩, e1⟩ ⟨⟨es, .inr z⟩, by rw [← ne]; exact h1⟩) (Ne.symm n)
          · exact .inr ⟨h3, by show upd g.F a _ b = none; rw [upd_ne ne]; exact h4, h5⟩
  · exact ⟨g, r⟩
end
theorem ds_frz {T : Tb} {X : Cx} {W : WX} {B : Bs} {st : Stmt} {m : Ms} (i : Nat) (h : DS T X W B st m) : DS T X W B st (mFrz i m) := ps_imp h fun E σ H ⟨g, env, s, r, q⟩ => by
  obtain ⟨g', r'⟩ := r.frz i
  exact ⟨g', _, s, r', q⟩
/-! ### contexts -/
theorem at_blk {T : Tb} {X : Cx} {W : WX} {rp : Bool} (A : At T X W rp) (s : Shared) (H : Hp) (scope : Scope) (cenv : Env) (fp : List Addr) : At T (X.blk s H scope cenv fp) W0 rp := ⟨A.un, A.gd, A.nd, LamX.takes0⟩
section
variable {P : Program} {w : World} {K : PySem.W.Frag} {mg : Str → Option Value} {base : Heap} {T : Tb}
theorem fnG_ofL {rp : Bool} {x qual : Str} {st : Stmt} {f : Addr} {N ps : List Str} {k : Nat} {ms : List Bool} {m : Ms} {oc : Value} {od : Option Addr} {kV doc pm : Value} {an : Option Addr} {cdv ct : Value} {osl : Array (Option Value)}
    (lk : K.lookup f = some ⟨oc, od, .func (PySem.W.fnOf x qual (defArgs st) (defBody st) (defScope st) .none kV doc pm an cdv ct), osl⟩) (hcd : PySem.W.codeIn K cdv qual = true) (Sc : FnScope N ps (defScope st)) (hms : ms.length = ps.length)
    (hb : ∀ (A : Around) (outer : List Env) (s : Shared) (H : Hp) (E : XK), Room k (A.deeper (envOfC qual (defScope st) s.heap.objs.size f cdv)) → At T (cxG P w K mg base N qual (defScope st) f cdv A outer s H E) (WF E) rp → ∀ B : Bs, DSs T (cxG P w K mg base N qual (defScope st) f cdv A outer s H E) (WF E) B (defBody st) m) :
    FnG P w K mg base rp (k + 1) f (PySem.W.fnOf x qual (defArgs st) (defBody st) (defScope st) .none kV doc pm an cdv ct) ps (spM ⟨K, mg, T.T, T.rv⟩ ms (mkF ms N.length m)) := by
  refine ⟨fun vs H Q E ⟨g, ds, s, _, a, _⟩ => by rw [← hms]; exact a.length.1, fun A outer s H args us vs Q E hr hg e0 hbi r hsp => ?_⟩
  obtain ⟨g, ds, s', sr, ao, h⟩ := hsp
  have hpl : ps.length ≤ N.length := by
    have := congrArg List.length Sc.pre
    rw [List.length_take] at this
    omega
  refine LamX.run_ofS lk hcd Sc hr e0 hbi r (by rw [← hms]; exact ao.length.1) fun hr' => ?_
  have A' : At T (cxG P w K mg base N qual (defScope st) f cdv A outer s H E) (WF E) rp := ⟨by have := hr'.un; show (A.deeper _).units + 150 < cLine; omega, hg, Sc.nd, takes_of rfl rfl rfl rfl⟩
  refine ⟨_, hb A outer s H E hr' A' ⟨g, g, H⟩, g, _, s', start_rel sr ao (by rw [hms]; exact hpl), ?_⟩
  unfold mkF at h
  generalize m (startE ms ds N.length) s' = r' at h
  cases r' with
  | nx env s2 => exact fun g2 σ2 H2 r2 => h g2 .non H2 r2.stp r2.toSR .non
  | rt d s2 => exact fun g2 v H2 t sr2 dn => h g2 v H2 t sr2 dn
  | exc x env s2 => exact fun g2 c dx σ2 H2 r2 xr => h g2 c dx H2 r2.stp r2.toSR xr
  | bk env s2 => exact h.elim
  | ct env s2 => exact h.elim
  | bad => exact h.elim
end
end Dn

set_option Elab.async false
set_option linter.all false
set_option maxRecDepth 100000
set_option maxHeartbeats 4000000
namespace Dn
open PySem PySem.Spec PyProof.Rows L2
section
variable {T : Tb} {X : Cx} {W : WX} {B : Bs} {pos : Pos}
theorem de_gli {x : Str} {i : Int} (hg : Gl X x) (h : ∃ t, X.mg x = some (.int i t)) (hdb : (x == ("__debug__" : Str)) = false := by decide) : DE T X W (.Name x pos) (mC (.int i)) := by
  obtain ⟨t, e⟩ := h
  exact de_gl (v := .int i) hg e ⟨t, rfl⟩ (fun _ => .int i) hdb
theorem de_gls {x z : Str} (hg : Gl X x) (h : ∃ t, X.mg x = some (.str z t)) (hdb : (x == ("__debug__" : Str)) = false := by decide) : DE T X W (.Name x pos) (mC (.str z)) := by
  obtain ⟨t, e⟩ := h
  exact de_gl (v := .str z) hg e ⟨t, rfl⟩ (fun _ => .str z) hdb
/-! ### the length of a row of targets -/
theorem gl_nil : ∀ ds env env', gsNil ds env = some env' → ds.length = 0 := fun ds env env' h => by cases ds with | nil => rfl | cons => cases h
theorem gl_cons {a : D → En → Option En} {r : List D → En → Option En} {n : Nat} (h : ∀ ds env env', r ds env = some env' → ds.length = n) : ∀ ds env env', gsCons a r ds env = some env' → ds.length = n + 1 := fun ds env env' e => by
  cases ds with
  | nil => cases e
  | cons d ds =>
    have e : (a d env).bind (r ds) = some env' := e
    cases q : a d env with
    | none => rw [q] at e; cases e
    | some env1 => rw [q] at e; rw [List.length_cons, h ds env1 env' e]
/-! ### a general target -/
def mAsg (m : M D) (asg : D → En → Option En) : Ms := mOf m fun d env s => match asg d env with | some env' => .nx env' s | none => .bad
theorem ds_asg {tg e : Expr} {is : List Nat} {m : M D} {asg : D → En → Option En} (h : DE T X W e m) (hg : DG T X tg is asg) (hs : swapsWithSole [tg] e pos.line X.env = pure false := by rfl) (hw : swappedStores [tg] e X.env = pure none := by rfl) (h1 : (assignEach [tg] X.env).map (·.2) = [assign tg X.env] := by rfl) :
    DS T X W B (.Assign [tg] e pos) (mAsg m asg) := by
  obtain ⟨gt, pg, qg⟩ := hg
  refine ps_imp (ps_asg h pg hs hw h1) fun E σ H ⟨g, env, s, r, q⟩ => tG_of r q fun d s' g' v H' r' dn q => ?_
  cases e1 : asg d env with
  | none => rw [e1] at q; exact q.elim
  | some env' =>
    rw [e1] at q
    exact qg g' env s' σ H' v d env' _ r'.toRel dn e1 fun σ' r2 ow l fr => q g' σ' H' { r2 with stp := r'.stp, nw := fun j a h => r'.nw j a (ow j a h), fb := r'.fb, fa := r'.fa }
end
end Dn

set_option Elab.async false
set_option linter.all false
set_option maxRecDepth 100000
set_option maxHeartbeats 4000000
/-! reading the meanings: rules for simp -/
namespace Dn
open PySem
section
variable {α β : Type} {a : α} {x : Ex} {s : S} {k : α → S → R β}
theorem b_ok : (R.ok a s).bind k = k a s := rfl
theorem b_exc : (R.exc x s : R α).bind k = .exc x s := rfl
theorem b_bad : (R.bad : R α).bind k = .bad := rfl
theorem b_ite {c : Prop} [Decidable c] {r r' : R α} : (if c then r else r').bind k = if c then r.bind k else r'.bind k := by split <;> rfl
theorem l_some : R.lift (some a) s = .ok a s := rfl
theorem l_none : R.lift (none : Option α) s = .bad := rfl
end
/-- a statement's reading by a value's -/
def ofR {α : Type} (r : R α) (env : En) (k : α → S → Rs) : Rs := match r with | .ok a s => k a s | .exc x s => .exc x env s | .bad => .bad
def sqR (r : Rs) (b : Ms) : Rs := match r with | .nx env s => b env s | r => r
def fnR (r : Rs) : R D := match r with | .nx _ s => .ok .none s | .rt d s => .ok d s | .exc x _ s => .exc x s | _ => .bad
section
variable {α : Type} {a : α} {x : Ex} {s : S} {env : En} {k : α → S → Rs} {b : Ms} {d : D}
theorem of_ok : ofR (.ok a s) env k = k a s := rfl
theorem of_exc : ofR (.exc x s : R α) env k = .exc x env s := rfl
theorem of_bad : ofR (.bad : R α) env k = .bad := rfl
theorem of_ite {c : Prop} [Decidable c] {r r' : R α} : ofR (if c then r else r') env k = if c then ofR r env k else ofR r' env k := by split <;> rfl
theorem sq_nx : sqR (.nx env s) b = b env s := rfl
theorem sq_rt : sqR (.rt d s) b = .rt d s := rfl
theorem sq_bk : sqR (.bk env s) b = .bk env s := rfl
theorem sq_ct : sqR (.ct env s) b = .ct env s := rfl
theorem sq_exc : sqR (.exc x env s) b = .exc x env s := rfl
theorem sq_bad : sqR .bad b = .bad := rfl
theorem sq_ite {c : Prop} [Decidable c] {r r' : Rs} : sqR (if c then r else r') b = if c then sqR r b else sqR r' b := by split <;> rfl
theorem fn_nx : fnR (.nx env s) = .ok .none s := rfl
theorem fn_rt : fnR (.rt d s) = .ok d s := rfl
theorem fn_exc : fnR (.exc x env s) = .exc x s := rfl
theorem fn_bad : fnR .bad = .bad := rfl
theorem fn_ite {c : Prop} [Decidable c] {r r' : Rs} : fnR (if c then r else r') = if c then fnR r else fnR r' := by split <;> rfl
theorem v_mkF {ms : List Bool} {n : Nat} {m : Ms} {ds : List D} : mkF ms n m ds s = fnR (m (startE ms ds n) s) := by
  unfold mkF fnR
  cases m (startE ms ds n) s <;> rfl
theorem v_of {m : M α} {k : α → En → S → Rs} : mOf m k env s = ofR (m env s) env fun a s' => k a env s' := by
  unfold mOf ofR
  cases m env s <;> rfl
theorem v_seq {a b : Ms} : mSeq a b env s = sqR (a env s) b := by
  unfold mSeq sqR
  cases a env s <;> rfl
theorem v_next : mNext env s = .nx env s := rfl
theorem v_retN : mRetN env s = .rt .none s := rfl
theorem v_brk : mBreak env s = .bk env s := rfl
theorem v_cont : mCont env s = .ct env s := rfl
theorem v_raise : mRaise x env s = .exc x env s := rfl
theorem v_frz {i : Nat} {m : Ms} : mFrz i m env s = m (frzE i env) s := rfl
theorem v_bin {α β γ : Type} {f : α → β → S → Option γ} {ma : M α} {mb : M β} : mBin f ma mb env s = (ma env s).bind fun a s1 => (mb env s1).bind fun b s2 => R.lift (f a b s2) s2 := rfl
theorem v_op1 {α γ : Type} {f : α → S → Option γ} {ma : M α} : mOp1 f ma env s = (ma env s).bind fun a s1 => R.lift (f a s1) s1 := rfl
theorem v_c : mC d env s = .ok d s := rfl
theorem v_nil : mNil env s = .ok [] s := rfl
theorem v_cons {ma : M D} {mr : M (List D)} : mCons ma mr env s = (ma env s).bind fun d s1 => (mr env s1).bind fun ds s2 => .ok (d :: ds) s2 := rfl
theorem v_consO {ma mr : M (List D)} : mConsO ma mr env s = (ma env s).bind fun d s1 => (mr env s1).bind fun ds s2 => .ok (.list d :: ds) s2 := rfl
theorem v_call {mf : Mf} {ma : M (List D)} : mCall mf ma env s = (ma env s).bind fun ds s1 => mf ds s1 := rfl
theorem v_test {m : M D} : mTest m env s = (m env s).bind fun d s' => R.lift (asB d) s' := rfl
theorem v_not {m : M Bool} : mNot m env s = (m env s).bind fun b s' => .ok (!b) s' := rfl
theorem v_and {ma mb : M Bool} : mAnd ma mb env s = (ma env s).bind fun b s' => if b = true then mb env s' else .ok false s' := rfl
theorem v_or {ma mb : M Bool} : mOr ma mb env s = (ma env s).bind fun b s' => if b = true then .ok true s' else mb env s' := rfl
theorem v_if {c : M Bool} {ma mb : M α} : mIf c ma mb env s = (c env s).bind fun k s' => if k = true then ma env s' else mb env s' := rfl
/-- r, if the row is no longer than a row may be -/
@[irreducible] def szR {β : Type} (ds : List D) (r b : β) : β := if ds.length ≤ sizeLine then r else b
theorem szR_le {β : Type} {ds : List D} {r b : β} (h : ds.length ≤ 1000000) : szR ds r b = r := by
  unfold szR
  exact if_pos (Nat.le_trans h (by rw [sizeLine_eq]; decide))
theorem szR_0 {β : Type} {r b : β} : szR [] r b = r := szR_le (by simp)
theorem szR_1 {β : Type} {x0 : D} {r b : β} : szR [x0] r b = r := szR_le (by simp)
theorem szR_2 {β : Type} {x0 x1 : D} {r b : β} : szR [x0, x1] r b = r := szR_le (by simp)
theorem szR_3 {β : Type} {x0 x1 x2 : D} {r b : β} : szR [x0, x1, x2] r b = r := szR_le (by simp)
theorem szR_4 {β : Type} {x0 x1 x2 x3 : D} {r b : β} : szR [x0, x1, x2, x3] r b = r := szR_le (by simp)
theorem szR_5 {β : Type} {x0 x1 x2 x3 x4 : D} {r b : β} : szR [x0, x1, x2, x3, x4] r b = r := szR_le (by simp)
theorem szR_6 {β : Type} {x0 x1 x2 x3 x4 x5 : D} {r b : β} : szR [x0, x1, x2, x3, x4, x5] r b = r := szR_le (by simp)
theorem szR_7 {β : Type} {x0 x1 x2 x3 x4 x5 x6 : D} {r b : β} : szR [x0, x1, x2, x3, x4, x5, x6] r b = r := szR_le (by simp)
theorem szR_8 {β : Type} {x0 x1 x2 x3 x4 x5 x6 x7 : D} {r b : β} : szR [x0, x1, x2, x3, x4, x5, x6, x7] r b = r := szR_le (by simp)
theorem szR_9 {β : Type} {x0 x1 x2 x3 x4 x5 x6 x7 x8 : D} {r b : β} : szR [x0, x1, x2, x3, x4, x5, x6, x7, x8] r b = r := szR_le (by simp)
theorem szR_10 {β : Type} {x0 x1 x2 x3 x4 x5 x6 x7 x8 x9 : D} {r b : β} : szR [x0, x1, x2, x3, x4, x5, x6, x7, x8, x9] r b = r := szR_le (by simp)
theorem szR_11 {β : Type} {x0 x1 x2 x3 x4 x5 x6 x7 x8 x9 x10 : D} {r b : β} : szR [x0, x1, x2, x3, x4, x5, x6, x7, x8, x9, x10] r b = r := szR_le (by simp)
theorem szR_12 {β : Type} {x0 x1 x2 x3 x4 x5 x6 x7 x8 x9 x10 x11 : D} {r b : β} : szR [x0, x1, x2, x3, x4, x5, x6, x7, x8, x9, x10, x11] r b = r := szR_le (by simp)
theorem szR_13 {β : Type} {x0 x1 x2 x3 x4 x5 x6 x7 x8 x9 x10 x11 x12 : D} {r b : β} : szR [x0, x1, x2, x3, x4, x5, x6, x7, x8, x9, x10, x11, x12] r b = r := szR_le (by simp)
theorem szR_14 {β : Type} {x0 x1 x2 x3 x4 x5 x6 x7 x8 x9 x10 x11 x12 x13 : D} {r b : β} : szR [x0, x1, x2, x3, x4, x5, x6, x7, x8, x9, x10, x11, x12, x13] r b = r := szR_le (by simp)
/-- a value that must be a bool -/
def bol (d : D) (k : Bool → R D) : R D := match d with | .bool b => k b | _ => .bad
theorem bol_b {b : Bool} {k : Bool → R D} : bol (.bool b) k = k b := rfl
theorem v_andV {ma mb : M D} : mAndV ma mb env s = (ma env s).bind fun d s' => bol d fun b => if b = true then mb env s' else .ok (.bool false) s' := by
  unfold mAndV
  congr 1
  funext d s'
  unfold bol
  cases d with
  | bool b => cases b <;> rfl
  | _ => rfl
theorem v_orV {ma mb : M D} : mOrV ma mb env s = (ma env s).bind fun d s' => bol d fun b => if b = true then .ok (.bool true) s' else mb env s' := by
  unfold mOrV
  congr 1
  funext d s'
  unfold bol
  cases d with
  | bool b => cases b <;> rfl
  | _ => rfl
theorem v_notV {ma : M D} : mNotV ma env s = (ma env s).bind fun d s' => bol d fun b => .ok (.bool (!b)) s' := by
  unfold mNotV
  congr 1
theorem v_chain {α β δ : Type} {f : α → β → S → Option D} {f' : β → δ → S → Option D} {ma : M α} {mb : M β} {mc : M δ} : mChain f f' ma mb mc env s = (ma env s).bind fun a s1 => (mb env s1).bind fun b s2 => (R.lift (f a b s2) s2).bind fun k s3 => bol k fun c => if c = true then (mc env s3).bind fun c s4 => R.lift (f' b c s4) s4 else .ok (.bool false) s3 := by
  unfold mChain
  congr 1
  funext a s1
  congr 1
  funext b s2
  congr 1
  funext k s3
  unfold bol
  cases k with
  | bool b => cases b <;> rfl
  | _ => rfl
theorem v_lst {m : M (List D)} : mLst m env s = (m env s).bind fun ds s' => szR ds (.ok ds s') .bad := by unfold szR; rfl
theorem v_tup {m : M (List D)} : mTup m env s = (m env s).bind fun ds s' => szR ds (.ok (.tuple ds) s') .bad := by unfold szR; rfl
theorem v_L {m : M (List D)} : mL m env s = (m env s).bind fun ds s' => .ok (.list ds) s' := rfl
theorem v_mu {m : M (List D)} : mMu m env s = (m env s).bind fun ds s' => .ok (muD s'.length) (s' ++ [ds]) := rfl
theorem v_Q {m : M D} : mQ m env s = (m env s).bind fun d s' => R.lift (asQ d) s' := rfl
theorem v_P0 : mP0 env s = .ok none s := rfl
def iOf (d : D) (k : Int → R (Option Int)) : R (Option Int) := match d with | .int i => k i | _ => .bad
theorem iOf_i {i : Int} {k : Int → R (Option Int)} : iOf (.int i) k = k i := rfl
theorem v_P {m : M D} : mP m env s = (m env s).bind fun d s' => iOf d fun i => .ok (some i) s' := by
  unfold mP
  congr 1
theorem v_sl {α γ : Type} {f : α → Option Int → Option Int → S → Option γ} {ma : M α} {ml mh : M (Option Int)} : mSl f ma ml mh env s = (ma env s).bind fun a s1 => (ml env s1).bind fun l s2 => (mh env s2).bind fun h s3 => R.lift (f a l h s3) s3 := rfl
theorem v_meth {α β γ : Type} {ok : α → Bool} {f : α → β → S → Option γ} {ma : M α} {mb : M β} : mMeth ok f ma mb env s = (ma env s).bind fun a s1 => if ok a = true then (mb env s1).bind fun b s2 => R.lift (f a b s2) s2 else .bad := rfl
theorem v_par {is : List Nat} {ks : List Bool} {m : M (List D)} : mPar is ks m env s = ofR (m env s) env fun ds s' => .nx (setE is ks ds env) s' := v_of
theorem v_ifS {c : M Bool} {a b : Ms} : mIfS c a b env s = ofR (c env s) env fun k s' => if k = true then a env s' else b env s' := v_of
theorem v_set {i : Nat} {m : M D} : mSet i m env s = ofR (m env s) env fun d s' => .nx (env.set i (.fz d)) s' := v_of
theorem v_setOw {i : Nat} {m : M (List D)} : mSetOw i m env s = ofR (m env s) env fun d s' => .nx (env.set i (.ow d)) s' := v_of
theorem v_ret {m : M D} : mRet m env s = ofR (m env s) env fun d s' => .rt d s' := v_of
theorem v_drop {m : M α} : mDrop m env s = ofR (m env s) env fun _ s' => .nx env s' := v_of
def varR (o : Option Sl) (s : S) : R D := match o with | some (.fz d) => .ok d s | _ => .bad
theorem var_fz : varR (some (.fz d)) s = .ok d s := rfl
theorem v_var {i : Nat} : mVar i env s = varR env[i]? s := by
  unfold mVar varR
  cases env[i]? with
  | none => rfl
  | some x => cases x <;> rfl
def ownR (o : Option Sl) (s : S) : R (Bool × List D) := match o with | some (.fz (.list ds)) => .ok (false, ds) s | some (.fz (.tuple ds)) => .ok (true, ds) s | some (.ow ds) => .ok (false, ds) s | some (.sh ds) => .ok (false, ds) s | _ => .bad
theorem own_fl {ds : List D} : ownR (some (.fz (.list ds))) s = .ok (false, ds) s := rfl
theorem own_ft {ds : List D} : ownR (some (.fz (.tuple ds))) s = .ok (true, ds) s := rfl
theorem own_ow {ds : List D} : ownR (some (.ow ds)) s = .ok (false, ds) s := rfl
theorem own_sh {ds : List D} : ownR (some (.sh ds)) s = .ok (false, ds) s := rfl
theorem v_own {i : Nat} : mOwn i env s = ownR env[i]? s := by
  unfold mOwn ownR
  split <;> simp_all
def appS (o : Option Sl) (i : Nat) (m : M D) (env : En) (s : S) : Rs := match o with | some (.ow ds) => ofR (m env s) env fun d s' => if ds.length < sizeLine then .nx (env.set i (.ow (ds ++ [d]))) s' else .bad | _ => .bad
theorem app_ow {ds : List D} {i : Nat} {m : M D} : appS (some (.ow ds)) i m env s = ofR (m env s) env fun d s' => szR (d :: ds) (.nx (env.set i (.ow (ds ++ [d]))) s') .bad := by unfold szR; rfl
theorem v_app {i : Nat} {m : M D} : mAppend i m env s = appS env[i]? i m env s := by
  unfold mAppend appS
  cases h : env[i]? with
  | none => rfl
  | some x =>
    cases x with
    | ow ds =>
      dsimp only
      rw [v_of]
      simp only [h]
    | _ => rfl
def extS (o : Option Sl) (i : Nat) (m : M (Bool × List D)) (env : En) (s : S) : Rs := match o with | some (.ow ds) => ofR (m env s) env fun d s' => if d.1 = false ∧ ds.length + d.2.length ≤ sizeLine then .nx (env.set i (.ow (ds ++ d.2))) s' else .bad | _ => .bad
theorem ext_ow {ds : List D} {i : Nat} {m : M (Bool × List D)} : extS (some (.ow ds)) i m env s = ofR (m env s) env fun d s' => if d.1 = false ∧ ds.length + d.2.length ≤ sizeLine then .nx (env.set i (.ow (ds ++ d.2))) s' else .bad := rfl
theorem v_ext {i : Nat} {m : M (Bool × List D)} : mExtend i m env s = extS env[i]? i m env s := by
  unfold mExtend extS
  cases h : env[i]? with
  | none => rfl
  | some x =>
    cases x with
    | ow ds =>
      dsimp only
      rw [v_of]
      simp only [h]
    | _ => rfl
def frzS (o : Option Sl) (i : Nat) (env : En) : En := match o with | some (.ow ds) => env.set i (.fz (.list ds)) | _ => env
theorem frs_ow {i : Nat} {ds : List D} : frzS (some (.ow ds)) i env = env.set i (.fz (.list ds)) := rfl
theorem frs_fz {i : Nat} {d : D} : frzS (some (.fz d)) i env = env := rfl
theorem v_frzE {i : Nat} : frzE i env = frzS env[i]? i env := by
  unfold frzE frzS
  split <;> simp_all
theorem v_for {src : M (List D)} {asg : D → En → Option En} {body : Ms} : mFor src asg body env s = ofR (src env s) env fun ds s' => forLoop asg body ds env s' := v_of
theorem v_lam {r : Th → Th} {mb : M D} : mLam r mb env s = r (fun s1 => mb env s1) s := rfl
end
/-! ### the operations on numbers -/
theorem oAdd_i {i j : Int} {s : S} : oAdd (.int i) (.int j) s = some (.int (i + j)) := rfl
theorem oSub_i {i j : Int} {s : S} : oSub (.int i) (.int j) s = some (.int (i - j)) := rfl
theorem oNeg_i {i : Int} {s : S} : oNeg (.int i) s = some (.int (-i)) := rfl
theorem oLt_i {i j : Int} {s : S} : oLt (.int i) (.int j) s = some (.bool (decide (i < j))) := rfl
theorem oLe_i {i j : Int} {s : S} : oLe (.int i) (.int j) s = some (.bool (decide (i ≤ j))) := rfl
theorem oGt_i {i j : Int} {s : S} : oGt (.int i) (.int j) s = some (.bool (decide (i > j))) := rfl
theorem oGe_i {i j : Int} {s : S} : oGe (.int i) (.int j) s = some (.bool (decide (i ≥ j))) := rfl
theorem oMin_i {i j : Int} {s : S} : oMin2 (.int i) (.int j) s = some (.int (if j < i then j else i)) := rfl
theorem oMax_i {i j : Int} {s : S} : oMax2 (.int i) (.int j) s = some (.int (if j > i then j else i)) := rfl
theorem oEq_i {i j : Int} {s : S} : oEq (.int i) (.int j) s = some (.bool (i == j)) := rfl
theorem oNe_i {i j : Int} {s : S} : oNe (.int i) (.int j) s = some (.bool (!(i == j))) := rfl
theorem oEq_s {i j : Str} {s : S} : oEq (.str i) (.str j) s = some (.bool (i == j)) := rfl
theorem oNe_s {i j : Str} {s : S} : oNe (.str i) (.str j) s = some (.bool (!(i == j))) := rfl
theorem oMul_r {i j : Int} {s : S} (h : -(2 ^ 64) < j ∧ j < 2 ^ 64) : oMul (.int i) (.int j) s = some (.int (i * j)) := if_pos (.inr h)
theorem oMul_l {i j : Int} {s : S} (h : -(2 ^ 64) < i ∧ i < 2 ^ 64) : oMul (.int i) (.int j) s = some (.int (i * j)) := if_pos (.inl h)
theorem oIxQ_i {a : Bool × List D} {i : Int} {s : S} : oIxQ a (.int i) s = L2.atI a.2 i := rfl
theorem oIx_l {ds : List D} {i : Int} {s : S} : oIx (.list ds) (.int i) s = L2.atI ds i := rfl
theorem oIx_t {ds : List D} {i : Int} {s : S} : oIx (.tuple ds) (.int i) s = L2.atI ds i := rfl
theorem rng1_n {n : Nat} {s : S} (h : n ≤ 1000000000) : oRng1 (.int (n : Int)) s = some (rangeD 0 n) := by
  have e : oRng1 (.int (n : Int)) s = if -(2 ^ 62) ≤ (n : Int) ∧ (n : Int) < 2 ^ 62 then some (rangeD 0 (n : Int).toNat) else none := rfl
  rw [e, if_pos (by omega), Int.toNat_natCast]
theorem rng2_n {i j : Int} {s : S} (hi : -1000000000 ≤ i ∧ i ≤ 1000000000) (hj : -1000000000 ≤ j ∧ j ≤ 1000000000) : oRng2 (.int i) (.int j) s = some (rangeD i (j - i).toNat) := by
  have e : oRng2 (.int i) (.int j) s = if -(2 ^ 62) ≤ i ∧ i < 2 ^ 62 ∧ -(2 ^ 62) ≤ j ∧ j < 2 ^ 62 then some (rangeD i (j - i).toNat) else none := rfl
  rw [e, if_pos (by omega)]
theorem asB_b {b : Bool} : asB (.bool b) = some b := rfl
theorem asQ_l {ds : List D} : asQ (.list ds) = some (false, ds) := rfl
theorem asQ_t {ds : List D} : asQ (.tuple ds) = some (true, ds) := rfl
theorem v_rangeD_len (lo : Int) (n : Nat) : (rangeD lo n).length = n := by unfold rangeD; simp
theorem v_rangeD_get {lo : Int} {n i : Nat} {d : D} (h : (rangeD lo n)[i]? = some d) : i < n ∧ d = .int (lo + (i : Int)) := by
  unfold rangeD at h
  rw [List.getElem?_map] at h
  by_cases hi : i < n
  · rw [List.getElem?_range hi] at h
    exact ⟨hi, (Option.some.inj h).symm⟩
  · rw [List.getElem?_eq_none (by simpa using hi)] at h; cases h
/-! ### loops by invariants -/
theorem for_inv {asg : D → En → Option En} {body : Ms} (I : Nat → En → S → Prop) : ∀ {ds : List D} {env : En} {s : S} {k : Nat}, I k env s → (∀ i d env s, ds[i]? = some d → I (k + i) env s → ∃ env1 env' s', asg d env = some env1 ∧ body env1 s = .nx env' s' ∧ I (k + i + 1) env' s') →
    ∃ env' s', forLoop asg body ds env s = .nx env' s' ∧ I (k + ds.length) env' s'
  | [], env, s, k, h, _ => ⟨env, s, rfl, h⟩
  | d :: ds, env, s, k, h, st => by
    obtain ⟨env1, env', s', h1, h2, h3⟩ := st 0 d env s rfl h
    obtain ⟨env2, s2, h4, h5⟩ := for_inv I (ds := ds) (k := k + 1) h3 fun i d env s hd hi => by
      obtain ⟨a, b, c, x, y, z⟩ := st (i + 1) d env s (by simpa using hd) (by rw [show k + (i + 1) = k + 1 + i by omega]; exact hi)
      exact ⟨a, b, c, x, y, by rw [show k + 1 + i + 1 = k + (i + 1) + 1 by omega]; exact z⟩
    refine ⟨env2, s2, ?_, by rw [List.length_cons, show k + (ds.length + 1) = k + 1 + ds.length by omega]; exact h5⟩
    unfold forLoop
    rw [h1]
    dsimp only
    rw [h2]
    exact h4
theorem while_inv {c : M Bool} {b : Ms} (I : En → S → Prop) (μ : En → Nat) (st : ∀ env s, I env s → c env s = .ok false s ∨ (c env s = .ok true s ∧ ∃ env' s', b env s = .nx env' s' ∧ I env' s' ∧ μ env' < μ env)) : ∀ {n : Nat} {env : En} {s : S}, I env s → μ env < n →
    ∃ env' s', whileLoop c b n env s = .nx env' s' ∧ I env' s' ∧ c env' s' = .ok false s'
  | 0, _, _, _, h => absurd h (Nat.not_lt_zero _)
  | n + 1, env, s, h, hm => by
    rcases st env s h with h1 | ⟨h1, env', s', h2, h3, h4⟩
    · refine ⟨env, s, ?_, h, h1⟩
      unfold whileLoop
      rw [h1]
    · obtain ⟨env2, s2, h5, h6⟩ := while_inv I μ st (n := n) h3 (by omega)
      refine ⟨env2, s2, ?_, h6⟩
      unfold whileLoop
      rw [h1]
      dsimp only
      rw [h2]
      exact h5
theorem comp_inv {asg : D → En → Option En} {test : M Bool} {elt : M D} {env : En} {s : S} {p : D → Bool} {v : D → D} : ∀ {ds acc : List D}, (∀ d ∈ ds, ∃ env1, asg d env = some env1 ∧ test env1 s = .ok (p d) s ∧ (p d = true → elt env1 s = .ok (v d) s)) →
    compLoop asg test elt ds acc env s = .ok (acc ++ (ds.filter p).map v) s
  | [], acc, _ => by unfold compLoop; simp
  | d :: ds, acc, h => by
    obtain ⟨env1, h1, h2, h3⟩ := h d (by simp)
    have h' : ∀ d ∈ ds, ∃ env1, asg d env = some env1 ∧ test env1 s = .ok (p d) s ∧ (p d = true → elt env1 s = .ok (v d) s) := fun d hd => h d (by simp [hd])
    unfold compLoop
    rw [h1]
    dsimp only
    rw [h2]
    cases e : p d with
    | true =>
      dsimp only
      rw [h3 e]
      dsimp only
      rw [comp_inv h', List.filter_cons, if_pos e]
      simp
    | false =>
      dsimp only
      rw [comp_inv h', List.filter_cons, if_neg (by rw [e]; decide)]
/-- a comprehension whose parts leave the store -/
theorem v_comp {src : M (List D)} {vs : List Nat} {asg : D → En → Option En} {test : M Bool} {elt : M D} {env : En} {s s1 : S} {ds : List D} (p : D → Bool) (v : D → D) (hs : src env s = .ok ds s1) (hl : ds.length ≤ sizeLine) (h : ∀ d ∈ ds, ∃ env1, asg d (wipeE env vs) = some env1 ∧ test env1 s1 = .ok (p d) s1 ∧ (p d = true → elt env1 s1 = .ok (v d) s1)) :
    mComp src vs asg test elt env s = .ok ((ds.filter p).map v) s1 := by
  unfold mComp
  rw [hs]
  show (if ds.length ≤ sizeLine then _ else _) = _
  rw [if_pos hl, comp_inv h]
  simp
/-! ### the loops, item by item -/
def lpR (r : Rs) (k : En → S → Rs) : Rs := match r with
  | .nx env s => k env s
  | .ct env s => k env s
  | .bk env s => .nx env s
  | .rt d s => .rt d s
  | .exc x env s => .exc x env s
  | .bad => .bad
def agL (o : Option En) (k : En → Rs) : Rs := match o with | some env => k env | none => .bad
section
variable {x : Ex} {s : S} {env : En} {d : D} {k : En → S → Rs} {k1 : En → Rs}
theorem lp_nx : lpR (.nx env s) k = k env s := rfl
theorem lp_ct : lpR (.ct env s) k = k env s := rfl
theorem lp_bk : lpR (.bk env s) k = .nx env s := rfl
theorem lp_rt : lpR (.rt d s) k = .rt d s := rfl
theorem lp_exc : lpR (.exc x env s) k = .exc x env s := rfl
theorem lp_bad : lpR .bad k = .bad := rfl
theorem lp_ite {c : Prop} [Decidable c] {r r' : Rs} : lpR (if c then r else r') k = if c then lpR r k else lpR r' k := by split <;> rfl
theorem ag_some : agL (some env) k1 = k1 env := rfl
theorem ag_none : agL none k1 = .bad := rfl
theorem fl_nil {asg : D → En → Option En} {body : Ms} : forLoop asg body [] env s = .nx env s := rfl
theorem fl_cons {asg : D → En → Option En} {body : Ms} {ds : List D} : forLoop asg body (d :: ds) env s = agL (asg d env) fun env1 => lpR (body env1 s) fun env2 s2 => forLoop asg body ds env2 s2 := by
  show (match asg d env with | none => Rs.bad | some env1 => match body env1 s with | .nx env2 s2 => forLoop asg body ds env2 s2 | .ct env2 s2 => forLoop asg body ds env2 s2 | .bk env2 s2 => .nx env2 s2 | .rt d s2 => .rt d s2 | .exc x env2 s2 => .exc x env2 s2 | .bad => .bad) = _
  unfold agL lpR
  cases asg d env with
  | none => rfl
  | some env1 =>
    cases body env1 s <;> rfl
theorem g_N {i : Nat} : gN i d env = some (env.set i (.fz d)) := rfl
theorem g_nil : gsNil [] env = some env := rfl
theorem g_cons {a : D → En → Option En} {r : List D → En → Option En} {ds : List D} : gsCons a r (d :: ds) env = (a d env).bind (r ds) := rfl
theorem g_T {r : List D → En → Option En} {ds : List D} : gT r (.tuple ds) env = r ds env := rfl
theorem o_some {α β : Type} {a : α} {f : α → Option β} : (some a).bind f = f a := rfl
theorem v_asg {m : M D} {asg : D → En → Option En} : mAsg m asg env s = ofR (m env s) env fun d s' => agL (asg d env) fun env' => .nx env' s' := by
  unfold mAsg
  rw [v_of]
  congr 1
end
/-! ### the try -/
def tryE (i : Nat) (r : Rs) : Rs := match r with
  | .nx env' s2 => .nx (clrE i env') s2
  | .rt d s2 => .rt d s2
  | _ => .bad
def tryR (n i : Nat) (pf : Ex → Bool) (ms : Ex → Ms) (r : Rs) : Rs := match r with
  | .exc x _ s' => if pf x = true then tryE i (ms x (wipeR n i) s') else .bad
  | r => r
def thkS (o : Option Sl) (r : R D) (env : En) (k : D → S → Rs) : Rs := match o with
  | some .rv => ofR r env k
  | _ => .bad
def saidR (r : Rs) : R D := match r with
  | .nx _ s' => .ok .none s'
  | .rt d s' => .ok d s'
  | _ => .bad
def isES (o : Option Sl) (b : Bool) (s : S) : R D := match o with | some .rv => .ok (.bool b) s | _ => .bad
section
variable {n i : Nat} {pf : Ex → Bool} {ms : Ex → Ms} {mb : Ms} {x : Ex} {s : S} {env : En} {d : D} {th : Th} {m : Msd} {r : R D} {k : D → S → Rs} {b : Bool}
theorem v_try : mTry n i pf mb ms env s = tryR n i pf ms (mb env s) := by
  unfold mTry tryR tryE
  cases mb env s with
  | exc x e s' =>
    first
      | rfl
      | (dsimp only; split; · cases ms x (wipeR n i) s' <;> rfl
         · rfl)
  | _ => rfl
theorem try_exc : tryR n i pf ms (.exc x env s) = if pf x = true then tryE i (ms x (wipeR n i) s) else .bad := rfl
theorem try_nx : tryR n i pf ms (.nx env s) = .nx env s := rfl
theorem try_rt : tryR n i pf ms (.rt d s) = .rt d s := rfl
theorem trE_rt : tryE i (.rt d s) = .rt d s := rfl
theorem trE_nx : tryE i (.nx env s) = .nx (clrE i env) s := rfl
theorem v_thkE : mThkE th env s = thkS env[0]? (th s) env fun _ s' => .nx env s' := by
  unfold mThkE thkS
  cases env[0]? with
  | none => rfl
  | some x =>
    cases x with
    | rv => dsimp only; cases th s <;> rfl
    | _ => rfl
theorem v_thkR : mThkR th env s = thkS env[0]? (th s) env fun d s' => .rt d s' := by
  unfold mThkR thkS
  cases env[0]? with
  | none => rfl
  | some x =>
    cases x with
    | rv => dsimp only; cases th s <;> rfl
    | _ => rfl
theorem thk_rv : thkS (some .rv) r env k = ofR r env k := rfl
theorem v_said : runSaid n m th s = saidR (m th ((List.replicate n .un).set 0 .rv) s) := by
  unfold runSaid saidR
  cases m th ((List.replicate n .un).set 0 .rv) s <;> rfl
theorem said_nx : saidR (.nx env s) = .ok .none s := rfl
theorem said_rt : saidR (.rt d s) = .ok d s := rfl
theorem v_isE : mIsE i b env s = isES env[i]? b s := by
  unfold mIsE isES
  split <;> simp_all
theorem isE_rv : isES (some .rv) b s = .ok (.bool b) s := rfl
theorem v_wipeR : wipeR n i = (List.replicate n Sl.un).set i .rv := rfl
end
/-! ### calls of a local name, stores -/
def lkL (o : Option Mf) (ma : M (List D)) (env : En) (s : S) : R D := match o with | some mf => mCall mf ma env s | none => .bad
def callLS (o : Option Sl) (tab : List (Str × Mf)) (ma : M (List D)) (env : En) (s : S) : R D := match o with
  | some (Sl.fz (.dict [(.none, .str y)])) => lkL (tab.lookup y) ma env s
  | _ => .bad
def ixO (o : Option Nat) (k : Nat → Rs) : Rs := match o with | some j => k j | none => .bad
def stoS (o : Option Sl) (i : Nat) (d k : D) (env : En) (s : S) : Rs := match k, o with
  | .int j, some (.ow ds) => ixO (L2.ixN ds.length j) fun k => .nx (env.set i (.ow (ds.set k d))) s
  | .int j, some (.fz (.dict [(.bool true, .int n)])) => if 0 ≤ n then (match s[n.toNat]? with | some ds => ixO (L2.ixN ds.length j) fun k => .nx env (s.set n.toNat (ds.set k d)) | none => .bad) else .bad
  | _, _ => .bad
def mayK (b : Bool) (r : Rs) : Rs := if b = true then r else .bad
section
variable {i : Nat} {s : S} {env : En} {d : D} {tab : List (Str × Mf)} {ma : M (List D)} {x : Str} {ds : List D} {j : Int} {mf : Mf}
theorem v_callL : mCallL i tab ma env s = callLS env[i]? tab ma env s := by
  unfold mCallL callLS
  first
    | rfl
    | (split <;> rename_i h <;> simp only [h]; rfl)
theorem callL_fn : callLS (some (.fz (fnD x))) tab ma env s = lkL (tab.lookup x) ma env s := rfl
theorem lkL_some : lkL (some mf) ma env s = mCall mf ma env s := rfl
theorem v_store {mj m : M D} : mStore i mj m env s = ofR (m env s) env fun d s1 => mayK (mayStore env[i]?) (ofR (mj env s1) env fun k s2 => stoS env[i]? i d k env s2) := by
  unfold mStore
  rw [v_of]
  unfold mayK
  simp only [v_of]
  rfl
theorem may_ow : mayStore (some (.ow ds)) = true := rfl
theorem may_fz : mayStore (some (.fz d)) = true := rfl
theorem may_t {r : Rs} : mayK true r = r := rfl
theorem sto_ow : stoS (some (.ow ds)) i d (.int j) env s = ixO (L2.ixN ds.length j) fun k => .nx (env.set i (.ow (ds.set k d))) s := rfl
theorem sto_mu : stoS (some (.fz (muD 0))) i d (.int j) env (ds :: s) = ixO (L2.ixN ds.length j) fun k => .nx env (ds.set k d :: s) := rfl
theorem ixO_s {k : Nat → Rs} {n : Nat} : ixO (some n) k = k n := rfl
end
/-! ### lists told by a map -/
section
variable {α : Type} {asg : D → En → Option En} {body : Ms} {env : En} {s s1 : S}
/-- a loop over xs.map f: an invariant by the place -/
theorem for_map (I : Nat → En → S → Prop) {xs : List α} {f : α → D} (h : I 0 env s) (st : ∀ (i : Nat) (x : α) (env : En) (s : S), xs[i]? = some x → I i env s → ∃ env1 env' s', asg (f x) env = some env1 ∧ body env1 s = .nx env' s' ∧ I (i + 1) env' s') :
    ∃ env' s', forLoop asg body (xs.map f) env s = .nx env' s' ∧ I xs.length env' s' := by
  obtain ⟨env', s', h1, h2⟩ := for_inv (asg := asg) (body := body) I (ds := xs.map f) (env := env) (s := s) (k := 0) h fun i d env s hd hi => by
    rw [List.getElem?_map] at hd
    cases e : xs[i]? with
    | none => rw [e] at hd; cases hd
    | some x =>
      rw [e] at hd
      cases hd
      rw [Nat.zero_add] at hi
      obtain ⟨a, b, c, p, q, r⟩ := st i x env s e hi
      exact ⟨a, b, c, p, q, by rw [Nat.zero_add]; exact r⟩
  exact ⟨env', s', h1, by rw [List.length_map, Nat.zero_add] at h2; exact h2⟩
/-- a comprehension over xs.map f whose parts leave the store -/
theorem comp_map {src : M (List D)} {vs : List Nat} {test : M Bool} {elt : M D} {xs : List α} {f : α → D} (p : α → Bool) (v : α → D) (hs : src env s = .ok (xs.map f) s1) (hl : xs.length ≤ 1000000) (h : ∀ x ∈ xs, ∃ env1, asg (f x) (wipeE env vs) = some env1 ∧ test env1 s1 = .ok (p x) s1 ∧ (p x = true → elt env1 s1 = .ok (v x) s1)) :
    mComp src vs asg test elt env s = .ok ((xs.filter p).map v) s1 := by
  have hl' : (xs.map f).length ≤ sizeLine := by rw [List.length_map, sizeLine_eq]; exact Nat.le_trans hl (by decide)
  unfold mComp
  rw [hs]
  show (if (xs.map f).length ≤ sizeLine then _ else _) = _
  rw [if_pos hl']
  have : ∀ (ys : List α) (acc : List D), (∀ x ∈ ys, x ∈ xs) → compLoop asg test elt (ys.map f) acc (wipeE env vs) s1 = .ok (acc ++ (ys.filter p).map v) s1 := by
    intro ys
    induction ys with
    | nil => intro acc _; unfold List.map compLoop; simp
    | cons y ys ih =>
      intro acc hy
      obtain ⟨env1, h1, h2, h3⟩ := h y (hy y (by simp))
      rw [List.map_cons]
      unfold compLoop
      rw [h1]
      dsimp only
      rw [h2]
      cases e : p y with
      | true =>
        dsimp only
        rw [h3 e]
        dsimp only
        rw [ih _ (fun x hx => hy x (by simp [hx])), List.filter_cons, if_pos e]
        simp
      | false =>
        dsimp only
        rw [ih _ (fun x hx => hy x (by simp [hx])), List.filter_cons, if_neg (by rw [e]; decide)]
  rw [this xs [] fun _ h => h]
  rfl
/-- a comprehension whose element changes the store: an invariant, and what each item is -/
theorem comp_st {src : M (List D)} {vs : List Nat} {elt : M D} {xs : List α} {f : α → D} (I : S → Prop) (P : D → Prop) (hs : src env s = .ok (xs.map f) s1) (hl : xs.length ≤ 1000000) (h1 : I s1) (h : ∀ x ∈ xs, ∀ s, I s → ∃ env1 d s', asg (f x) (wipeE env vs) = some env1 ∧ elt env1 s = .ok d s' ∧ P d ∧ I s') :
    ∃ ds s', mComp src vs asg mTrue elt env s = .ok ds s' ∧ ds.length = xs.length ∧ (∀ d ∈ ds, P d) ∧ I s' := by
  have hl' : (xs.map f).length ≤ sizeLine := by rw [List.length_map, sizeLine_eq]; exact Nat.le_trans hl (by decide)
  have : ∀ (ys : List α) (acc : List D) (s : S), (∀ x ∈ ys, x ∈ xs) → I s → (∀ d ∈ acc, P d) → ∃ ds s', compLoop asg mTrue elt (ys.map f) acc (wipeE env vs) s = .ok ds s' ∧ ds.length = acc.length + ys.length ∧ (∀ d ∈ ds, P d) ∧ I s' := by
    intro ys
    induction ys with
    | nil => intro acc s _ hi ha; exact ⟨acc, s, rfl, rfl, ha, hi⟩
    | cons y ys ih =>
      intro acc s hy hi ha
      obtain ⟨env1, d, s', e1, e2, e3, e4⟩ := h y (hy y (by simp)) s hi
      obtain ⟨ds, s2, k1, k2, k3, k4⟩ := ih (acc ++ [d]) s' (fun x hx => hy x (by simp [hx])) e4 fun d' hd => by
        rcases List.mem_append.mp hd with hd | hd
        · exact ha d' hd
        · rw [List.mem_singleton.mp hd]; exact e3
      refine ⟨ds, s2, ?_, by rw [k2, List.length_append, List.length_cons, List.length_cons, List.length_nil]; omega, k3, k4⟩
      rw [List.map_cons]
      unfold compLoop
      rw [e1]
      dsimp only
      rw [show mTrue env1 s = .ok true s from rfl]
      dsimp only
      rw [e2]
      exact k1
  obtain ⟨ds, s', k1, k2, k3, k4⟩ := this xs [] s1 (fun _ h => h) h1 (fun _ h => by cases h)
  refine ⟨ds, s', ?_, by simpa using k2, k3, k4⟩
  unfold mComp
  rw [hs]
  show (if (xs.map f).length ≤ sizeLine then _ else _) = _
  rw [if_pos hl', k1]
end
theorem rangeD_map (lo : Int) (n : Nat) : rangeD lo n = (List.range n).map fun (i : Nat) => PyData.int (lo + (i : Int)) := rfl
/-! ### arithmetic with side conditions -/
section
variable {i j : Int} {s : S} {ds l : List D} {x0 x1 x2 x3 x4 x5 : D}
theorem oMod_p (h : 0 < j) : oMod (.int i) (.int j) s = some (.int (i % j)) := if_pos h
theorem oDiv_p (h : 0 < j) (h' : j < 1073741824) : oDiv (.int i) (.int j) s = some (.int (i / j)) := if_pos ⟨h, h'⟩
theorem oMul_L (h : -18446744073709551616 < i) (h' : i < 18446744073709551616) : oMul (.int i) (.int j) s = some (.int (i * j)) := oMul_l ⟨h, h'⟩
theorem oMul_R (h : -18446744073709551616 < j) (h' : j < 18446744073709551616) : oMul (.int i) (.int j) s = some (.int (i * j)) := oMul_r ⟨h, h'⟩
theorem oPow_6 : oPow (.int 10) (.int 6) s = some (.int 1000000) := by kernel_rfl
theorem oPow_12 : oPow (.int 10) (.int 12) s = some (.int 1000000000000) := by kernel_rfl
theorem oPow_18 : oPow (.int 10) (.int 18) s = some (.int 1000000000000000000) := by kernel_rfl
theorem oPow_20 : oPow (.int 10) (.int 20) s = some (.int 100000000000000000000) := by kernel_rfl
theorem oPow_36 : oPow (.int 10) (.int 36) s = some (.int 1000000000000000000000000000000000000) := by kernel_rfl
theorem oInt_i : oInt (.int i) s = some (.int i) := rfl
theorem oInt_b {b : Bool} : oInt (.bool b) s = some (.int (if b then 1 else 0)) := rfl
theorem oAbs_i : oAbs (.int i) s = some (.int (if i < 0 then -i else i)) := rfl
theorem oLen_l : oLen (.list ds) s = some (.int ds.length) := rfl
theorem oLen_t : oLen (.tuple ds) s = some (.int ds.length) := rfl
theorem oLenQ_i {a : Bool × List D} : oLenQ a s = some (.int a.2.length) := rfl
theorem oIx_mu {r : S} : oIx (muD 0) (.int j) (ds :: r) = L2.atI ds j := rfl
theorem at_n {α : Type} {xs : List α} {n : Nat} (h : n < xs.length) : L2.atI xs (n : Int) = xs[n]? := by
  rw [List.getElem?_eq_getElem h]
  exact L2.atI_nat (List.getElem?_eq_getElem h)
theorem at_0 : L2.atI (x0 :: l) 0 = some x0 := at_n (xs := x0 :: l) (n := 0) (by simp)
theorem at_1 : L2.atI (x0 :: x1 :: l) 1 = some x1 := at_n (xs := x0 :: x1 :: l) (n := 1) (by simp)
theorem at_2 : L2.atI (x0 :: x1 :: x2 :: l) 2 = some x2 := at_n (xs := x0 :: x1 :: x2 :: l) (n := 2) (by simp)
theorem at_3 : L2.atI (x0 :: x1 :: x2 :: x3 :: l) 3 = some x3 := at_n (xs := x0 :: x1 :: x2 :: x3 :: l) (n := 3) (by simp)
theorem at_4 : L2.atI (x0 :: x1 :: x2 :: x3 :: x4 :: l) 4 = some x4 := at_n (xs := x0 :: x1 :: x2 :: x3 :: x4 :: l) (n := 4) (by simp)
theorem at_5 : L2.atI (x0 :: x1 :: x2 :: x3 :: x4 :: x5 :: l) 5 = some x5 := at_n (xs := x0 :: x1 :: x2 :: x3 :: x4 :: x5 :: l) (n := 5) (by simp)
theorem ix5_0 : L2.ixN 5 0 = some 0 := by decide
theorem ix5_1 : L2.ixN 5 1 = some 1 := by decide
theorem ix5_2 : L2.ixN 5 2 = some 2 := by decide
theorem ix5_3 : L2.ixN 5 3 = some 3 := by decide
theorem ix5_4 : L2.ixN 5 4 = some 4 := by decide
end
/-! ### slices, items of a row -/
section
variable {α : Type} {xs : List α}
theorem cut_h {n : Nat} : cutL xs none (some (n : Int)) = xs.take n := by
  unfold cutL
  rw [HT.sIx_none, HT.sIx_nat, List.drop_zero, Nat.sub_zero]
  by_cases h : n ≤ xs.length
  · rw [Nat.min_eq_left h]
  · rw [Nat.min_eq_right (by omega), List.take_length, List.take_of_length_le (by omega)]
theorem cut_l {n : Nat} : cutL xs (some (n : Int)) none = xs.drop n := by
  unfold cutL
  rw [HT.sIx_none, HT.sIx_nat]
  by_cases h : n ≤ xs.length
  · rw [Nat.min_eq_left h, List.take_of_length_le (by rw [List.length_drop]; omega)]
  · rw [Nat.min_eq_right (by omega), Nat.sub_self, List.take_zero, List.drop_eq_nil_of_le (by omega)]
theorem cut_lh {n m : Nat} (h : n ≤ m) : cutL xs (some (n : Int)) (some (m : Int)) = (xs.drop n).take (m - n) := by
  unfold cutL
  rw [HT.sIx_nat, HT.sIx_nat]
  by_cases h1 : m ≤ xs.length
  · rw [Nat.min_eq_left h1, Nat.min_eq_left (by omega)]
  · rw [Nat.min_eq_right (by omega : xs.length ≤ m)]
    by_cases h2 : n ≤ xs.length
    · rw [Nat.min_eq_left h2, List.take_of_length_le (by rw [List.length_drop]; omega), List.take_of_length_le (by rw [List.length_drop]; omega)]
    · rw [Nat.min_eq_right (by omega), Nat.sub_self, List.take_zero, List.drop_eq_nil_of_le (by omega), List.take_nil]
theorem cut_63 (h : xs.length ≤ 63) : cutL xs none (some 63) = xs := by
  rw [show (63 : Int) = ((63 : Nat) : Int) from rfl, cut_h, List.take_of_length_le h]
theorem oItems_l {ds : List D} {s : S} : oItems (.list ds) s = some ds := rfl
theorem oItems_t {ds : List D} {s : S} : oItems (.tuple ds) s = some ds := rfl
theorem oItems_s {z : Str} {s : S} : oItems (.str z) s = some (signsD z) := rfl
theorem oItemsQ_i {a : Bool × List D} {s : S} : oItemsQ a s = some a.2 := rfl
theorem oSl_l {ds : List D} {l h : Option Int} {s : S} : oSl (.list ds) l h s = some (.list (cutL ds l h)) := rfl
theorem oSl_t {ds : List D} {l h : Option Int} {s : S} : oSl (.tuple ds) l h s = some (.tuple (cutL ds l h)) := rfl
theorem oSl_sc {ds : List D} {l h : Option Int} {s : S} : oSl (scD ds) l h s = some (.list (cutL ds l h)) := rfl
theorem oTupOf_i {a : Bool × List D} {s : S} : oTupOf a s = some (.tuple a.2) := rfl
theorem oLstOf_i {a : Bool × List D} {s : S} : oLstOf a s = some (.list a.2) := rfl
theorem oSum_i {ns : List Int} {s : S} : oSum (false, ns.map .int) s = some (.int ns.sum) := by
  unfold oSum
  rw [if_pos rfl, intsD_map]
  rfl
theorem oAll_i {ns : List Bool} {s : S} : oAll (false, ns.map .bool) s = some (.bool (ns.all id)) := by
  unfold oAll
  rw [if_pos rfl, boolsD_map]
  rfl
theorem oAny_i {ns : List Bool} {s : S} : oAny (false, ns.map .bool) s = some (.bool (ns.any id)) := by
  unfold oAny
  rw [if_pos rfl, boolsD_map]
  rfl
end
/-! ### rows put together -/
section
variable {ds es : List D} {s : S}
theorem oEqQ_refl (h : SeqAt.shaped (.list ds) = true) : oEqQ (false, ds) (false, ds) s = some (.bool true) := by
  have e : oEqQ (false, ds) (false, ds) s = (if SeqAt.shaped (.list ds) && SeqAt.shaped (.list ds) then some (PyData.eqv (.list ds) (.list ds)) else none).map .bool := rfl
  rw [e, h, SeqAt.eqv_refl _ (SeqAt.canLay_of_shaped h)]
  rfl
theorem oCatL_le (h : ds.length + es.length ≤ 1000000) : oCatL (false, ds) (false, es) s = some (ds ++ es) := if_pos ⟨rfl, rfl, Nat.le_trans h (by rw [sizeLine_eq]; decide)⟩
theorem oCatQ_le (h : ds.length + es.length ≤ 1000000) : oCatQ (false, ds) (false, es) s = some (.list (ds ++ es)) := if_pos ⟨rfl, rfl, Nat.le_trans h (by rw [sizeLine_eq]; decide)⟩
theorem oAdd_l (h : ds.length + es.length ≤ 1000000) : oAdd (.list ds) (.list es) s = some (.list (ds ++ es)) := if_pos (Nat.le_trans h (by rw [sizeLine_eq]; decide))
theorem oAdd_t (h : ds.length + es.length ≤ 1000000) : oAdd (.tuple ds) (.tuple es) s = some (.tuple (ds ++ es)) := if_pos (Nat.le_trans h (by rw [sizeLine_eq]; decide))
theorem oMul_ln {n : Nat} (h : ds.length * n ≤ 1000000) (hn : n ≤ 1000000) : oMul (.list ds) (.int (n : Int)) s = some (.list (List.replicate n ds).flatten) := by
  have e : oMul (.list ds) (.int (n : Int)) s = if -(2 ^ 63) ≤ (n : Int) ∧ (n : Int) < 2 ^ 63 ∧ ds.length * (n : Int).toNat ≤ sizeLine then some (.list (List.replicate (n : Int).toNat ds).flatten) else none := rfl
  rw [e, if_pos, Int.toNat_natCast]
  rw [Int.toNat_natCast]
  exact ⟨by omega, by omega, Nat.le_trans h (by rw [sizeLine_eq]; decide)⟩
theorem oMul_l2 (h : ds.length ≤ 100000) : oMul (.list ds) (.int 2) s = some (.list (ds ++ ds)) := (oMul_ln (n := 2) (by omega) (by omega)).trans (by simp [List.replicate])
theorem oMul_l3 (h : ds.length ≤ 100000) : oMul (.list ds) (.int 3) s = some (.list (ds ++ (ds ++ ds))) := (oMul_ln (n := 3) (by omega) (by omega)).trans (by simp [List.replicate])
theorem oMul_l4 (h : ds.length ≤ 100000) : oMul (.list ds) (.int 4) s = some (.list (ds ++ (ds ++ (ds ++ ds)))) := (oMul_ln (n := 4) (by omega) (by omega)).trans (by simp [List.replicate])
theorem oMul_l5 (h : ds.length ≤ 100000) : oMul (.list ds) (.int 5) s = some (.list (ds ++ (ds ++ (ds ++ (ds ++ ds))))) := (oMul_ln (n := 5) (by omega) (by omega)).trans (by simp [List.replicate])
end
/-! the rules -/
end Dn

set_option Elab.async false
set_option linter.all false
set_option maxRecDepth 100000
set_option maxHeartbeats 4000000
/-! in, not in; fields of f-strings; constants that are tuples -/
namespace L2
open PySem PySem.Spec PyProof.Rows SeqAt
section
variable {X : Cx}
def rInDT (K : PySem.W.Frag) (neg : Bool) : R2 := fun x y H Q => ∃ d ds, Dp K H x d ∧ Dp K H y (.tuple ds) ∧ SeqAt.shaped d = true ∧ SeqAt.shaped (.tuple ds) = true ∧ Q (.bl (if neg then !(ds.any fun z => PyData.eqv z d) else ds.any fun z => PyData.eqv z d)) H
theorem op_inDT (hu : X.A.units + 65 < cLine) : OpR X (compareOp .In) (rInDT X.K false) := by
  intro pins s σ H x y v u Q I rx ry h
  obtain ⟨d, ds, hd, he, sd, se, q⟩ := h
  obtain ⟨as, r1⟩ := Dp.reads I d x v hd rx
  obtain ⟨bs, r2⟩ := Dp.reads I (.tuple ds) y u he ry
  exact SeqAt.in_tuple_reads r2 r1 (SeqAt.canLay_of_shaped se) (SeqAt.canLay_of_shaped sd) (room_in_shaped sd hu) ⟨.bl _, H, I, rfl, q⟩
theorem op_notInDT (hu : X.A.units + 65 < cLine) : OpR X (compareOp .NotIn) (rInDT X.K true) := by
  intro pins s σ H x y v u Q I rx ry h
  obtain ⟨d, ds, hd, he, sd, se, q⟩ := h
  obtain ⟨as, r1⟩ := Dp.reads I d x v hd rx
  obtain ⟨bs, r2⟩ := Dp.reads I (.tuple ds) y u he ry
  exact SeqAt.notIn_tuple_reads r2 r1 (SeqAt.canLay_of_shaped se) (SeqAt.canLay_of_shaped sd) (room_in_shaped sd hu) ⟨.bl _, H, I, rfl, q⟩
end
end L2
namespace Dn
open PySem PySem.Spec PyProof.Rows L2
section
variable {T : Tb} {X : Cx} {W : WX}
def hasD (a : D) (ds : List D) : Bool := ds.any fun y => PyData.eqv y a
def inS (x z : Str) : Option Bool := match x.cps.toList with | [c] => some (decide (c ∈ z.cps.toList)) | _ => none
def inD : D → D → Option Bool
  | a, .tuple ds => if SeqAt.shaped a && SeqAt.shaped (.tuple ds) then some (hasD a ds) else none
  | a, .list ds => if SeqAt.shaped a && SeqAt.shaped (.list ds) then some (hasD a ds) else none
  | .str x, .str z => inS x z
  | _, _ => none
def oIn (a b : D) (_ : S) : Option D := (inD a b).map .bool
def oNotIn (a b : D) (_ : S) : Option D := (inD a b).map fun c => .bool (!c)
theorem one_sign {x : Str} {c : Nat} (h : x.cps.toList = [c]) : x = ⟨#[c]⟩ := by
  cases x with
  | mk a =>
    congr 1
    exact Array.toList_inj.mp h
theorem inD_cases {C : Ct} {g : Gh} {s : S} {H : Hp} {x y : V} {a b : D} {c : Bool} (sr : SR C g s H) (ra : DenG C g x a) (rb : DenG C g y b) (e : inD a b = some c) :
    (∃ ds, b = .tuple ds ∧ SeqAt.shaped a = true ∧ SeqAt.shaped (.tuple ds) = true ∧ c = hasD a ds) ∨ (∃ ds, b = .list ds ∧ SeqAt.shaped a = true ∧ SeqAt.shaped (.list ds) = true ∧ c = hasD a ds) ∨
      (∃ n z, x = .str ⟨#[n]⟩ ∧ y = .str z ∧ c = decide (n ∈ z.cps.toList)) := by
  unfold inD at e
  split at e
  · rename_i ds
    split at e
    · rename_i z; rw [Bool.and_eq_true] at z; cases e; exact .inl ⟨ds, rfl, z.1, z.2, rfl⟩
    · cases e
  · rename_i ds
    split at e
    · rename_i z; rw [Bool.and_eq_true] at z; cases e; exact .inr (.inl ⟨ds, rfl, z.1, z.2, rfl⟩)
    · cases e
  · rename_i x' z
    unfold inS at e
    split at e
    · rename_i n hn
      cases ra
      cases rb
      cases e
      exact .inr (.inr ⟨n, z, by rw [one_sign hn], rfl, rfl⟩)
    · cases e
  · cases e
theorem od_in (hu : X.A.units + 150 < cLine) : OpD T X (rD (ct T X)) (rD (ct T X)) (rD (ct T X)) (compareOp .In) oIn :=
  ⟨_, OpR.or (op_inDT (by omega)) (OpR.or (op_inD (by omega)) op_in_sign), fun g s H x y a b c Q sr ra rb e h => by
    unfold oIn at e
    cases q : inD a b with
    | none => rw [q] at e; cases e
    | some k =>
      rw [q] at e
      cases e
      rcases inD_cases sr ra rb q with ⟨ds, rfl, z1, z2, rfl⟩ | ⟨ds, rfl, z1, z2, rfl⟩ | ⟨n, z, rfl, rfl, rfl⟩
      · exact .inl ⟨a, ds, Den.dp rfl sr.sub (noDict_of z1) ra, Den.dp rfl sr.sub (noDict_of z2) rb, z1, z2, h.here sr (.bl _)⟩
      · exact .inr (.inl ⟨a, ds, Den.dp rfl sr.sub (noDict_of z1) ra, Den.dp rfl sr.sub (noDict_of z2) rb, z1, z2, h.here sr (.bl _)⟩)
      · exact .inr (.inr ⟨n, z, rfl, rfl, h.here sr (.bl _)⟩)⟩
theorem od_notIn (hu : X.A.units + 150 < cLine) : OpD T X (rD (ct T X)) (rD (ct T X)) (rD (ct T X)) (compareOp .NotIn) oNotIn :=
  ⟨_, OpR.or (op_notInDT (by omega)) (OpR.or (op_notInD (by omega)) op_notIn_sign), fun g s H x y a b c Q sr ra rb e h => by
    unfold oNotIn at e
    cases q : inD a b with
    | none => rw [q] at e; cases e
    | some k =>
      rw [q] at e
      cases e
      rcases inD_cases sr ra rb q with ⟨ds, rfl, z1, z2, rfl⟩ | ⟨ds, rfl, z1, z2, rfl⟩ | ⟨n, z, rfl, rfl, rfl⟩
      · exact .inl ⟨a, ds, Den.dp rfl sr.sub (noDict_of z1) ra, Den.dp rfl sr.sub (noDict_of z2) rb, z1, z2, h.here sr (.bl _)⟩
      · exact .inr (.inl ⟨a, ds, Den.dp rfl sr.sub (noDict_of z1) ra, Den.dp rfl sr.sub (noDict_of z2) rb, z1, z2, h.here sr (.bl _)⟩)
      · exact .inr (.inr ⟨n, z, rfl, rfl, h.here sr (.bl _)⟩)⟩
/-- of an own list -/
def inQ (a : D) (b : Bool × List D) : Option Bool := if SeqAt.shaped a && SeqAt.shaped (ofQ b) then some (hasD a b.2) else none
def oInQ (a : D) (b : Bool × List D) (_ : S) : Option D := (inQ a b).map .bool
def oNotInQ (a : D) (b : Bool × List D) (_ : S) : Option D := (inQ a b).map fun c => .bool (!c)
theorem od_inQ (hu : X.A.units + 150 < cLine) : OpD T X (rD (ct T X)) (rQ (ct T X)) (rD (ct T X)) (compareOp .In) oInQ :=
  ⟨_, OpR.or (op_inDT (by omega)) (op_inD (by omega)), fun g s H x y a b c Q sr ra rb e h => by
    unfold oInQ inQ at e
    split at e
    · rename_i z
      rw [Bool.and_eq_true] at z
      cases e
      have dp := DenL.dpAll sr rb (nodQ z.2)
      have z2 := z.2
      unfold ofQ at z2
      cases hb : b.1
      · rw [hb] at dp z2
        exact .inr ⟨a, b.2, Den.dp rfl sr.sub (noDict_of z.1) ra, dp, z.1, z2, h.here sr (.bl _)⟩
      · rw [hb] at dp z2
        exact .inl ⟨a, b.2, Den.dp rfl sr.sub (noDict_of z.1) ra, dp, z.1, z2, h.here sr (.bl _)⟩
    · cases e⟩
theorem od_notInQ (hu : X.A.units + 150 < cLine) : OpD T X (rD (ct T X)) (rQ (ct T X)) (rD (ct T X)) (compareOp .NotIn) oNotInQ :=
  ⟨_, OpR.or (op_notInDT (by omega)) (op_notInD (by omega)), fun g s H x y a b c Q sr ra rb e h => by
    unfold oNotInQ inQ at e
    split at e
    · rename_i z
      rw [Bool.and_eq_true] at z
      cases e
      have dp := DenL.dpAll sr rb (nodQ z.2)
      have z2 := z.2
      unfold ofQ at z2
      cases hb : b.1
      · rw [hb] at dp z2
        exact .inr ⟨a, b.2, Den.dp rfl sr.sub (noDict_of z.1) ra, dp, z.1, z2, h.here sr (.bl _)⟩
      · rw [hb] at dp z2
        exact .inl ⟨a, b.2, Den.dp rfl sr.sub (noDict_of z.1) ra, dp, z.1, z2, h.here sr (.bl _)⟩
    · cases e⟩
/-! ### a constant that is a tuple -/
structure TupC (K : PySem.W.Frag) (mg : Str → Option Value) (x : Str) (ds : List D) : Prop where
  ex : ∃ a vs, mg x = some (.ref a) ∧ (∃ (o : Obj) (its : Array Value) (n : Nat), K.lookup a = some o ∧ o.cls = .type "tuple" ∧ o.data = .seq its n ∧ its.size ≤ sizeLine ∧ Vals vs its.toList) ∧ ∀ (C : Ct) (g : Gh), DenGL C g vs ds
theorem de_glt {x : Str} {ds : List D} {pos : Pos} (hg : Gl X x) (h : TupC X.K X.mg x ds) (hdb : (x == ("__debug__" : Str)) = false := by decide) : DE T X W (.Name x pos) (mC (.tuple ds)) := by
  obtain ⟨a, vs, hm, hk, hd⟩ := h.ex
  exact de_gl (v := .ref a) hg hm rfl (fun g => .tup (.inr hk) (hd _ g)) hdb
end
/-! ### f'{x:02d}' -/
section
variable {prog : Program} {w : World} {A : Around} {E : Value → Shared → Prop} {s : Shared}
open Builtin Builtin.Str Builtin.Int Builtin.Float in
set_option maxRecDepth 100000 in
theorem ff_small {a : Int} {t : Tok} {spec : Str} {f : FormatSpec} {Q : Value → Shared → Prop}
    (hlog : a.natAbs.log2 < 1920) (hlt : a.natAbs < 10 ^ 4300)
    (hp : parseFormatSpec spec.cps.toList "int" 62 = .ok f)
    (hne : (spec.length == 0) = false)
    (hasc : ((spec.cps.toList.drop 1).any (· ≥ 128) || (spec.cps.getD 0 0 ≥ 128 && !([60, 62, 61, 94] : List Nat).contains (spec.cps.getD 1 0))) = false)
    (hg : intSpecGood spec f = true)
    (h : IntSpecFacts f a → Q (.str (intSpecText f a) (s.toks + 1)) { s with toks := s.toks + 1 + 1 }) (hsz : spec.length ≤ sizeLine := by size_fits) :
    wpAny (model prog w) A (formatField (.int a t) spec) Q E s := by
  unfold intSpecGood at hg
  simp only [Bool.and_eq_true] at hg
  obtain ⟨⟨⟨⟨⟨⟨hty, hpr⟩, hz⟩, hal⟩, hw⟩, hgr⟩, hsg⟩ := hg
  replace hty := beq_iff_eq.mp hty
  replace hpr := Option.isNone_iff_eq_none.mp hpr
  replace hz : f.noNeg0 = false := by simpa using hz
  replace hal : f.alt = false := by simpa using hal
  replace hw : f.width.getD 0 ≤ 100000 := by simpa using hw
  replace hgr := Option.isNone_iff_eq_none.mp hgr
  replace hsg := Option.isNone_iff_eq_none.mp hsg
  replace h := h (intSpecFacts a hgr hsg)
  have hdig : (Nat.toDigits 10 a.natAbs).length ≤ 4300 := by
    have e := (Nat.length_repr_le_iff (n := a.natAbs) (by decide : 0 < 4300)).mpr hlt
    rwa [← String.length_toList, Nat.toList_repr] at e
  have hlen : (intSpecText f a).length ≤ sizeLine := by
    rw [intSpecText_length a hgr hsg, sizeLine_eq]
    clear hlt h
    split <;> omega
  show wpAny _ _ (holding [.int a t] (pyFormat (.int a t) spec)) Q E s
  refine wpAny_holding ?_
  unfold pyFormat
  refine wpAny_bind (wpAny_mkStr ?_ hsz)
  refine wpAny_bind (m := callSpecial? (.int a t) (Str.ofString "__format__") [.str spec s.toks]) (wpAny_callSpecial?_slot (name := Str.ofString "__format__") (typeIs_int _ a t) slot_int_format ?_)
  refine wpAny_call (codeAny_call_builtin slot_int_format.plain entry_int_format (slot_int_format.check _ _ _ _ _ _ _ _ (typeIs_int _ a t) (args_int_format _ _) ?_))
  unfold Builtin.«int.__format__»
  simp only [selfAndOne, noKeywords, Int.intOfSelf, asInt?, asStr?, List.isEmpty_nil, if_true, pure_bind, bind_pure, bind_assoc, hne, hasc, Bool.false_eq_true, if_false,
    show (Value.str spec s.toks == Value.none) = false from rfl]
  refine wpAny_bind (wpAny_typeNameOf (T := "str") (typeIs_str _ _ _) (by decide) fun _ => ?_)
  first | refine wpAny_bind (wpAny_typeNameOfCut_int ?_) | refine wpAny_bind (wpAny_typeNameOf_int ?_)
  simp only [hp, hty]
  rw [if_pos (by decide)]
  show wpAny _ _ (if _ then _ else _) _ _ _
  rw [if_neg (by simp [hpr])]
  show wpAny _ _ (if _ then _ else _) _ _ _
  rw [if_neg (by simp [hz])]
  show wpAny _ _ (if _ then _ else _) _ _ _
  rw [if_neg (by decide)]
  show wpAny _ _ (do let r ← Builtin.overDigitLimit? a; _) _ _ _
  rw [PySem.overDigitLimit_small hlog]
  refine wpAny_bind (wpAny_pure ?_)
  show wpAny _ _ (if _ then _ else _) _ _ _
  have hw' : ¬ (f.width.getD 0 > 100000) := by omega
  rw [if_neg (by simpa using hw')]
  show wpAny _ _ (retStr _) _ _ _
  unfold retStr
  refine wpAny_bind (wpAny_mkStr (wpAny_pure ?_) ?hs2)
  case hs2 =>
    simp only [hal, Bool.false_eq_true, if_false, show ((10 : Nat) == 10) = true by decide, if_true]
    conv => lhs; arg 1; whnf
    simp only [intSpecText, intField', hgr, hsg, hal, Bool.false_eq_true, if_false, show ((10 : Nat) == 10) = true by decide, if_true] at hlen ⊢
    exact hlen
  dsimp only
  refine wpAny_bind (wpAny_isInstance (typeIs_str _ _ _) isSubtype_str_str (wpAny_pure ?_))
  simp only [hal, Bool.false_eq_true, if_false, show ((10 : Nat) == 10) = true by decide, if_true]
  conv => arg 1; arg 1; whnf
  simp only [intSpecText, intField', hgr, hsg, hal, Bool.false_eq_true, if_false, show ((10 : Nat) == 10) = true by decide, if_true] at h ⊢
  exact h
end
/-- 02d, of a number below 100 -/
def two02 (a : Int) : Str := if decide (a < 10) = true then (⟨#[48]⟩ : Str) ++ Str.ofString (toString a) else Str.ofString (toString a)
theorem ff_02d {prog : Program} {w : World} {A : Around} {E : Value → Shared → Prop} {s : Shared} {a : Int} {t : Tok} {Q : Value → Shared → Prop} (h0 : 0 ≤ a) (h1 : a < 100) (h : ∀ t' k, Q (.str (two02 a) t') { s with toks := k }) : wpAny (model prog w) A (formatField (.int a t) ("02d" : Str)) Q E s := by
  have hp : ∃ f, Builtin.Float.parseFormatSpec (("02d" : Str)).cps.toList "int" 62 = Except.ok f ∧ intSpecGood ("02d" : Str) f = true ∧ f.grouping = none ∧ f.sign = none ∧ f.fill = 48 ∧ f.align = 61 ∧ f.width.getD 0 = 2 := ⟨_, rfl, by decide +kernel, rfl, rfl, rfl, rfl, rfl⟩
  obtain ⟨f, p1, p2, p3, p4, p5, p6, p7⟩ := hp
  refine ff_small (f := f) ?_ (lt_digitLimit_of_lt (by omega)) p1 (by decide +kernel) (by decide +kernel) p2 (fun _ => ?_) (by decide +kernel)
  · by_cases z : a.natAbs = 0
    · rw [z]; decide
    · exact (Nat.log2_lt z).mpr (Nat.lt_of_lt_of_le (show a.natAbs < 2 ^ 7 by omega) (Nat.pow_le_pow_right (by decide) (by decide)))
  · rw [intSpecText_pad2 p3 p4 p5 p6 p7 h0 h1]
    exact h _ _
/-! f'..' -/
def oFmt2 : D → S → Option D
  | .int i, _ => if 0 ≤ i ∧ i < 100 then some (.str (two02 i)) else none
  | _, _ => none
section
variable {T : Tb} {X : Cx} {W : WX}
def tFmt2 (te : TE) : TE := fun σ H Q => te σ H fun x H1 => ∃ i : Int, x = .int i ∧ 0 ≤ i ∧ i < 100 ∧ Q (.str (two02 i)) H1
theorem pe_fmt2 {e : Expr} {te : TE} {j : Nat} {p p2 pos : Pos} (he : PE X e te) : PE X (.FormattedValue e (-1) (some (.JoinedStr [.Constant (.str "02d") j p] p2)) pos) (tFmt2 te) := by
  refine ⟨fun pins s σ H Q I h => ?_⟩
  refine wpAny_FormattedValue_spec (thn (he.run pins s σ H _ I h) fun v s1 ⟨x, H1, I1, r1, i, e1, h0, h1, q⟩ => ?_)
  subst e1
  obtain ⟨t, rfl⟩ := r1
  refine thn ((pe_joined1 (pe_str (X := X) (x := "02d") (j := j) (pos := p)) (pos := p2)).run pins s1 σ H1 (fun x H' => x = .str "02d" ∧ H' = H1) I1 ⟨rfl, rfl⟩) fun v2 s2 ⟨y, H2, I2, r2, e2, e3⟩ => ?_
  subst e2
  subst e3
  obtain ⟨t2, rfl⟩ := r2
  refine ⟨_, _, rfl, ff_02d h0 h1 fun t' k => ?_⟩
  exact ⟨.str (two02 i), H2, I2.tok _, ⟨_, rfl⟩, q⟩
theorem de_fmt2 {m : M D} {e : Expr} {j : Nat} {p p2 pos : Pos} (he : DE T X W e m) : DE T X W (.FormattedValue e (-1) (some (.JoinedStr [.Constant (.str "02d") j p] p2)) pos) (mOp1 oFmt2 m) :=
  pe_imp (pe_fmt2 he) fun σ H Q q => op1_core (r := fun x H1 Q => ∃ i : Int, x = .int i ∧ 0 ≤ i ∧ i < 100 ∧ Q (.str (two02 i)) H1) (fun g s H x a c Q sr ra e h => by
    cases a with
    | int i =>
      have e : (if 0 ≤ i ∧ i < 100 then some (PyData.str (two02 i)) else none) = some c := e
      obtain ⟨z, rfl⟩ := iteS e
      cases ra
      exact ⟨i, rfl, z.1, z.2, h.here sr (.str _)⟩
    | _ => cases e) σ H Q q
def mJoinL : List (M D) → Str → M Str
  | [], acc => fun _ s => .ok acc s
  | m :: ms, acc => fun env s => (m env s).bind fun d s1 => match d with
    | .str y => if (acc ++ y).length ≤ sizeLine then mJoinL ms (acc ++ y) env s1 else .bad
    | _ => .bad
def mJoin (ms : List (M D)) : M D := fun env s => (mJoinL ms Str.empty env s).bind fun z s' => .ok (.str z) s'
theorem js_core {C : Ct} : ∀ (ms : List (M D)) (acc : Str) (σ : L2.St) (H : Hp) (Q : Str → Hp → Prop), (∃ g env s, Rel C g env s σ H ∧ (mJoinL ms acc env s).sat (fun z s' => ∀ g' H', Step g H g' H' → SR C g' s' H' → Q z H') (PX C W σ g H)) → tJs (ms.map (tD C W)) acc σ H Q
  | [], acc, σ, H, Q, ⟨g, env, s, r, h⟩ => h g H (Step.refl _ _) r.toSR
  | m :: ms, acc, σ, H, Q, ⟨g, env, s, r, h⟩ => by
    have h : ((m env s).bind fun d s1 => match d with | .str y => if (acc ++ y).length ≤ sizeLine then mJoinL ms (acc ++ y) env s1 else .bad | _ => .bad).sat (fun z s' => ∀ g' H', Step g H g' H' → SR C g' s' H' → Q z H') (PX C W σ g H) := h
    refine ⟨g, env, s, r, R.sat_mono (R.sat_bind h) (fun d s1 q g1 v H1 t1 sr1 dn => ?_) fun _ _ q => q⟩
    cases d with
    | str y =>
      dsimp only at q
      by_cases z : (acc ++ y).length ≤ sizeLine
      · rw [if_pos z] at q
        cases dn
        refine ⟨y, rfl, z, js_core ms (acc ++ y) σ H1 Q ⟨g1, env, s1, r.step t1 sr1, R.sat_mono q (fun z s' q g' H' t sr => q g' H' (t1.trans t) sr) fun _ _ => PX.step t1⟩⟩
      · rw [if_neg z] at q; exact q.elim
    | _ => exact q.elim
theorem de_joined {v1 v2 : Expr} {rest : List Expr} {ms : List (M D)} {pos : Pos} (h : PJ X (v1 :: v2 :: rest) (ms.map (tD (ct T X) W))) : DE T X W (.JoinedStr (v1 :: v2 :: rest) pos) (mJoin ms) :=
  pe_imp (pe_joined h) fun σ H Q ⟨g, env, s, r, q⟩ => js_core ms Str.empty σ H _ ⟨g, env, s, r, R.sat_mono (R.sat_bind q) (fun z s' q g' H' t sr => q g' _ H' t sr (.str z)) fun _ _ q => q⟩
end
/-! text * k -/
def repS (x : Str) (n : Nat) : Str := ⟨(List.replicate n x.cps).foldl (· ++ ·) #[]⟩
def oMulS : D → D → S → Option D
  | .str x, .int n, _ => if 2 ≤ n ∧ n ≤ 1000 ∧ 1 ≤ x.length ∧ x.length ≤ 1000 then some (.str (repS x n.toNat)) else none
  | _, _, _ => none
theorem repS_len (a : Array Nat) : ∀ (n : Nat) (b : Array Nat), ((List.replicate n a).foldl (· ++ ·) b).size = b.size + n * a.size
  | 0, b => by simp
  | n + 1, b => by
    rw [List.replicate_succ, List.foldl_cons, repS_len a n (b ++ a), Array.size_append, Nat.succ_mul]
    omega
theorem op_mulS {X : Cx} : OpR X (binaryOp .Mult) (fun x y H Q => ∃ (i : Str) (n : Int), x = .str i ∧ y = .int n ∧ 2 ≤ n ∧ n ≤ 1000 ∧ 1 ≤ i.length ∧ i.length ≤ 1000 ∧ Q (.str (repS i n.toNat)) H) := by
  intro pins s σ H x y v u Q I rx ry h
  obtain ⟨i, n, rfl, rfl, h1, h2, h3, h4, q⟩ := h
  obtain ⟨t, rfl⟩ := rx
  obtain ⟨t', rfl⟩ := ry
  obtain ⟨k, rfl⟩ : ∃ k : Nat, n = (k : Int) := ⟨n.toNat, by omega⟩
  have hk : k ≤ 1000 := by omega
  have hb : i.length * k ≤ 1000000 := Nat.le_trans (Nat.mul_le_mul h4 hk) (by decide)
  have e1 : ((k : Int) == 1 || i.length == 0) = false := by
    rw [Bool.or_eq_false_iff]
    exact ⟨by simpa using (show ¬ (k : Int) = 1 by omega), by simpa using (show ¬ i.length = 0 by omega)⟩
  refine PySem.P.mul_str (by rw [decide_eq_false (by omega), decide_eq_false (by omega)]; rfl) (fun _ _ => ?_) (fun _ _ => ?_) ?_
  · rw [Int.not_lt, Int.le_ediv_iff_mul_le (by omega)]
    have : (i.length : Int) * (k : Int) = ((i.length * k : Nat) : Int) := by simp
    rw [this]
    omega
  · rw [Int.toNat_natCast]
    show decide (i.length * k > sizeLine) = false
    exact decide_eq_false (by rw [sizeLine_eq]; omega)
  · rw [if_neg (by omega), if_neg (by rw [e1]; decide)]
    refine ⟨?_, ?_⟩
    · show ((⟨_⟩ : Str)).length ≤ sizeLine
      have : ((List.replicate (k : Int).toNat i.cps).foldl (· ++ ·) #[]).size = 0 + (k : Int).toNat * i.cps.size := repS_len _ _ _
      show ((List.replicate (k : Int).toNat i.cps).foldl (· ++ ·) #[]).size ≤ sizeLine
      rw [this, Int.toNat_natCast, sizeLine_eq]
      have e3 : i.cps.size = i.length := rfl
      rw [e3, Nat.mul_comm]
      omega
    · exact ⟨.str _, H, I.tok _, ⟨_, rfl⟩, q⟩
theorem od_mulS {T : Tb} {X : Cx} : OpD T X (rD (ct T X)) (rD (ct T X)) (rD (ct T X)) (binaryOp .Mult) oMulS :=
  ⟨_, op_mulS, fun g s H x y a b c Q sr ra rb e h => by
    cases a with
    | str i =>
      cases b with
      | int n =>
        have e : (if 2 ≤ n ∧ n ≤ 1000 ∧ 1 ≤ i.length ∧ i.length ≤ 1000 then some (PyData.str (repS i n.toNat)) else none) = some c := e
        obtain ⟨z, rfl⟩ := iteS e
        cases ra
        cases rb
        exact ⟨i, n, rfl, rfl, z.1, z.2.1, z.2.2.1, z.2.2.2, h.here sr (.str _)⟩
      | _ => cases e
    | _ => cases e⟩
end Dn

set_option Elab.async false
set_option linter.all false
set_option maxRecDepth 100000
set_option maxHeartbeats 4000000
/-! sorted, min, max, sum, count of lists and tuples of data; gcd -/
namespace Dn
open PySem PySem.W PySem.Calls PyProof.Rows
section
variable {prog : Program} {w : World} {A : Around} {E : Value → Shared → Prop} {s : Shared} {β : Type} {vs : List Value} {bs : List β} {enc : β → PyData} {R : Value → β → Prop}
theorem collect_at {Q : List Value → Shared → Prop} (it : Addr) {T : String} {o : Obj} {items : Array Value} {n : Nat} (hT : T = "list" ∨ T = "tuple") (ho : s.heap.get? it = some o) (hc : o.cls = .type T) (hd : o.data = .seq items n) (hsz : items.size ≤ sizeLine)
    (hQ : ∀ h', (∀ b o', s.heap.get? b = some o' → h'.get? b = some o') → s.heap.objs.size ≤ h'.objs.size → Q items.toList { s with heap := h' }) : wpAny (model prog w) A (collect (.ref it)) Q E s := by
  have new : (s.heap.push { cls := .type "list", data := .seq ([] : List Value).toArray }).get? s.heap.objs.size = some { cls := .type "list", data := .seq #[] 0 } := Heap.get?_push_size _ rfl
  have grown := Heap.get?_update_self (Obj.mapSeq (· ++ items)) new rfl
  have last : wpAny (model prog w) A (match Value.ref s.heap.objs.size with
      | Value.ref a => do
        match (← load a).data with
          | Data.seq xs _ => pure xs.toList
          | _ => unsupported "internal:collect"
      | _ => unsupported "internal:collect") Q E { s with heap := (s.heap.push { cls := .type "list", data := .seq ([] : List Value).toArray }).update s.heap.objs.size (Obj.mapSeq (· ++ items)) } := by
    show wpAny _ A (load s.heap.objs.size >>= _) _ _ _
    refine wpAny_bind (wpAny_load grown (wpAny_pure ?_))
    show Q ((#[] : Array Value) ++ items).toList _
    rw [show ((#[] : Array Value) ++ items).toList = items.toList by simp]
    refine hQ _ (fun b o' hb => (Heap.get?_update_other _ _ (Nat.ne_of_gt (Heap.lt_size hb))).trans (Heap.get?_push_of_some _ hb)) ?_
    rw [Heap.size_update, Heap.size_push]
    exact Nat.le_succ _
  unfold collect
  refine wpAny_bind (wpAny_runValue (codeAny_builtin F.entry_proto_collect ?_))
  rw [Around.under_plainId F.plain_proto_collect _]
  show wpAny _ A.in1 (newList [] >>= fun l => again (.builtin "list.__iadd__" ⟨[l, .ref it], []⟩)) _ _ s
  refine wpAny_bind (wpAny_newObj_type (wpAny_pure ⟨plainId_quiet F.plain_list_iadd _, codeAny_builtin F.entry_list_iadd ?_⟩))
  rw [Around.under_plainId F.plain_list_iadd _]
  show wpAny _ A.in1 (Builtin.List.listExtendWith (.ref s.heap.objs.size) (.ref it) (.ref s.heap.objs.size)) _ _ _
  refine wpAny_mono (wpAny_extend_seq (hsz := hsz) (A := A) (R := fun r s' => r = .ok (.ret (.ref s.heap.objs.size)) ∧ s' = { s with heap := (s.heap.push { cls := .type "list", data := .seq ([] : List Value).toArray }).update s.heap.objs.size (Obj.mapSeq (· ++ items)) })
    (s := { s with heap := s.heap.push { cls := .type "list", data := .seq ([] : List Value).toArray } }) _ it _ 0 hT new (Heap.get?_push_of_some _ ho) hc hd ⟨rfl, rfl⟩) (fun r s' k => ?_) fun _ s' k => absurd k.1 (by simp)
  cases r with
  | done f =>
    obtain ⟨q, rfl⟩ := k
    cases q
    exact last
  | again c' => exact ⟨k.1, codeAny_mono k.2 fun r s'' hr => by obtain ⟨rfl, rfl⟩ := hr; exact last⟩
/-- sorted of a list or a tuple -/
theorem sorted_seq {l : Addr} {T : String} {o : Obj} {n : Nat} {Q : Value → Shared → Prop} (hT : T = "list" ∨ T = "tuple") (ho : s.heap.get? l = some o) (hc : o.cls = .type T) (hd : o.data = .seq vs.toArray n)
    (e : EachIs R vs bs) (er : EachIs (fun v b => ∃ as, Reads s.heap v (enc b) as) vs bs) (hal : AllAlike (bs.map enc)) (hk : Sortable (bs.map enc)) (hL : bs.length ≤ sizeLine) (hu : ∀ b, b ∈ bs → A.units + 2 + (enc b).depth < cLine)
    (h : ∀ h' a out ep, (∀ b o, s.heap.get? b = some o → h'.get? b = some o) → s.heap.objs.size ≤ a → h'.get? a = some (seqObj "list" (List.toArray out) ep) → out.length = bs.length → EachIs R out (bs.mergeSort (dataLe false enc)) → Q (.ref a) { s with heap := h' }) :
    wpAny (model prog w) A (call (.builtin "sorted") [.ref l]) Q E s := by
  have hlen : vs.length ≤ sizeLine := by rw [e.length]; exact hL
  refine call_function_entry_kw kind_sorted plain_sorted entry_sorted (args_sorted1 _) ?_
  unfold Builtin.«sorted»
  refine wpAny_bind (m := checkCount "sorted" 1 1 _) (wpAny_pure ?_)
  refine wpAny_bind (collect_at l hT ho hc hd (by simpa using hlen) fun h1 k1 hle => ?_)
  refine wpAny_bind (wpAny_newList ?_ hlen)
  have at1 : (h1.push (seqObj "list" vs.toArray 0)).get? h1.objs.size = some (seqObj "list" vs.toArray 0) := Heap.get?_push_size _ rfl
  have keep : ∀ b o, s.heap.get? b = some o → b ≠ h1.objs.size := fun b o q z => by
    have := Heap.lt_size (k1 b o q)
    rw [z] at this
    exact Nat.lt_irrefl _ this
  have k2 : ∀ b o, s.heap.get? b = some o → (sortingHeap (h1.push (seqObj "list" vs.toArray 0)) h1.objs.size vs).get? b = some o := fun b o q => sortingHeap_old (keep b o q) (Heap.get?_push_of_some _ (k1 b o q))
  have er' : EachIs (fun v b => ∃ as, Reads (sortingHeap (h1.push (seqObj "list" vs.toArray 0)) h1.objs.size vs) v (enc b) as) vs bs := er.mono fun _ _ ⟨as, r⟩ => ⟨as, PyProof.Rows.Reads.keeps k2 r⟩
  refine wpAny_bind (wpAny_holding (wpAny_call_entry_kw slot_list_sort ⟨_, at1, rfl⟩ entry_list_sort ?body (args_list_sort _)))
  case body =>
    refine list_sort_vals (κ := dataKind (sortingHeap (h1.push (seqObj "list" vs.toArray 0)) h1.objs.size vs) (bs.map enc)) at1 (SortsAt.data (s := { s with heap := sortingHeap (h1.push (seqObj "list" vs.toArray 0)) h1.objs.size vs }) (each_map (R := fun v d => ∃ as, Reads (sortingHeap (h1.push (seqObj "list" vs.toArray 0)) h1.objs.size vs) v d as) enc er') hal hk (bound_map hu)) hlen ⟨_, rfl, wpAny_pure ⟨_, rfl, ?_⟩⟩
    obtain ⟨ep, he⟩ := sortedHeap_at (vs := vs) (out := (sortVals (dataKind (sortingHeap (h1.push (seqObj "list" vs.toArray 0)) h1.objs.size vs) (bs.map enc)) false vs vs).toArray) at1
    refine h _ _ _ ep (fun b o q => ?_) hle he (by rw [sortVals_length false rfl]; exact e.length) (sortVals_data false e er' hal)
    have q1 := Heap.get?_push_of_some (seqObj "list" vs.toArray 0) (k1 b o q)
    rw [sortedHeap_old (keep b o q) (Heap.lt_size q1)]
    exact q1
end
end Dn
namespace L2
open PySem PySem.Spec PySem.W PyProof.Rows
theorem dpAll_len {K : PySem.W.Frag} {H : Hp} : ∀ {ys : List V} {ds : List PyData}, DpAll K H ys ds → ys.length = ds.length
  | _, _, .nil => rfl
  | _, _, .cons _ t => by rw [List.length_cons, List.length_cons, dpAll_len t]
theorem each_vals : ∀ {ys : List V} {us : List Value} {ds : List PyData}, Vals ys us → ys.length = ds.length → EachIs (fun u (b : V × PyData) => RelV b.1 u) us (ys.zip ds)
  | _, _, [], .nil, _ => .nil
  | _, _, _ :: _, .nil, h => by cases h
  | _, _, [], .cons _ _, h => by cases h
  | _, _, _ :: _, .cons r t, h => .cons r (each_vals t (Nat.succ.inj h))
theorem each_reads {h : Heap} : ∀ {ys : List V} {us : List Value} {ds : List PyData} {as : List Addr}, ReadsAll h us ds as → ys.length = ds.length → EachIs (fun u (b : V × PyData) => ∃ as, Reads h u b.2 as) us (ys.zip ds)
  | [], _, _, _, .nil, _ => .nil
  | _ :: _, _, _, _, .nil, h => by cases h
  | [], _, _, _, .cons _ _, h => by cases h
  | _ :: _, _, _, _, .cons r t, h => .cons ⟨_, r⟩ (each_reads t (Nat.succ.inj h))
theorem vals_each : ∀ {us : List Value} {bs : List (V × PyData)}, EachIs (fun u (b : V × PyData) => RelV b.1 u) us bs → Vals (bs.map Prod.fst) us
  | _, _, .nil => .nil
  | _, _, .cons r t => .cons r (vals_each t)
theorem depth_mem : ∀ {ds : List PyData} {d : PyData}, d ∈ ds → d.depth ≤ PyData.depthAll ds
  | [], _, h => by cases h
  | e :: ds, d, h => by
    rw [PyData.depthAll]
    rcases List.mem_cons.mp h with rfl | h
    · omega
    · have := depth_mem h; omega
def sortP (ys : List V) (ds : List PyData) : List (V × PyData) := (ys.zip ds).mergeSort (dataLe false Prod.snd)
def rSortD (K : PySem.W.Frag) : List V → Hp → VK → Prop := fun vs H Q => ∃ (a : Addr) (ys : List V) (ds : List PyData), vs = [V.ref a] ∧ (SqL K H a ys ∨ SqT K H a ys) ∧ DpAll K H ys ds ∧ AllAlike ds ∧ Sortable ds ∧ PyData.depthAll ds ≤ 60 ∧
  ∀ p, H p = none → Q (.ref p) (upd H p (.lst ((sortP ys ds).map Prod.fst)))
theorem cr_sortD {X : Cx} (hu : X.A.units + 100 < cLine) : CallR X (.builtin "sorted") (rSortD X.K) := by
  intro pins s σ H vs us Q I r h
  obtain ⟨a, ys, ds, rfl, hs, hd, hal, hk, hdp, q⟩ := h
  rw [Vals.ref1 r]
  have hl := dpAll_len hd
  have eb : (ys.zip ds).map Prod.snd = ds := List.map_snd_zip (Nat.le_of_eq hl.symm)
  have key : ∀ (its : List Value) (T : String) (o : Obj) (n : Nat), Vals ys its → (T = "list" ∨ T = "tuple") → s.heap.get? a = some o → o.cls = .type T → o.data = .seq its.toArray n → ys.length ≤ sizeLine → wpAny (model X.prog X.w) X.A (call (.builtin "sorted") [.ref a]) (EP X pins σ Q) X.xe s := fun its T o n rv hT ho hc hdt hz => by
    obtain ⟨as, hr⟩ := Dp.readsAll I ds _ its hd rv
    refine Dn.sorted_seq (enc := Prod.snd) (bs := ys.zip ds) hT ho hc hdt (each_vals rv hl) (each_reads hr hl) (by rw [eb]; exact hal) (by rw [eb]; exact hk) (by rw [List.length_zip, ← hl, Nat.min_self]; exact hz) (fun b hb => ?_) fun h' p out ep k hp hg hlen ex => ?_
    · have : b.2 ∈ ds := by rw [← eb]; exact List.mem_map.mpr ⟨b, hb, rfl⟩
      have := depth_mem this
      omega
    · have hn : H p = none := I.hok.fresh hp
      have hlo : ((sortP ys ds).map Prod.fst).length ≤ sizeLine := by
        unfold sortP
        rw [List.length_map, List.length_mergeSort, List.length_zip, ← hl, Nat.min_self]
        exact hz
      exact ⟨.ref p, upd H p (.lst ((sortP ys ds).map Prod.fst)), I.laid (t' := s.toks) k hp ⟨hlo, out, ep, vals_each ex, hg⟩, rfl, q p hn⟩
  rcases hs with hs | hs
  · obtain ⟨its, rv, ⟨o, n, ho, hc, _, hdt⟩, hz⟩ := I.list hs
    exact key its "list" o n rv (.inl rfl) ho hc hdt hz
  · obtain ⟨its, rv, ⟨o, ho, hc, n, hdt⟩, hz⟩ := I.tuple hs
    exact key its "tuple" o n rv (.inr rfl) ho hc hdt hz
end L2
namespace Dn
open PySem PySem.Spec PySem.W PyProof.Rows L2
section
variable {T : Tb} {X : Cx} {W : WX}
def isCons : D → Bool
  | .tuple (_ :: _) => true
  | _ => false
def isFlat : D → Bool
  | .none => false
  | .tuple _ => false
  | _ => true
def okAlike (ds : List D) : Bool := (ds.all fun d => ds.all fun e => alike d e) && (!PyData.hasDictAll ds && decide (PyData.depthAll ds ≤ 60))
def okSort (ds : List D) : Bool := okAlike ds && (ds.all isCons || ds.all isFlat)
def sortD (ds : List D) : List D := ds.mergeSort (dataLe false id)
theorem okAlike_all {ds : List D} (h : okAlike ds = true) : AllAlike ds ∧ PyData.hasDictAll ds = false ∧ PyData.depthAll ds ≤ 60 := by
  unfold okAlike at h
  simp only [Bool.and_eq_true, Bool.not_eq_true', decide_eq_true_eq, List.all_eq_true] at h
  exact ⟨fun d hd e he => h.1 d hd e he, h.2.1, h.2.2⟩
theorem okSort_sortable {ds : List D} (h : okSort ds = true) : Sortable ds := by
  unfold okSort at h
  rw [Bool.and_eq_true, Bool.or_eq_true] at h
  rcases h.2 with h | h
  · refine .inl fun d hd => ?_
    have := List.all_eq_true.mp h d hd
    match d, this with
    | .tuple (x :: r), _ => exact ⟨x, r, rfl⟩
  · refine .inr fun d hd => ?_
    have := List.all_eq_true.mp h d hd
    cases d with
    | none => cases this
    | tuple xs => cases this
    | _ => exact And.intro (fun z => by cases z) (fun xs z => by cases z)
theorem denL_pairs {C : Ct} {F : Hp} {am : List Addr} : ∀ {bs : List (V × D)}, (∀ b ∈ bs, Den C F am b.1 b.2) → DenL C F am (bs.map Prod.fst) (bs.map Prod.snd)
  | [], _ => .nil
  | b :: bs, h => .cons (h b (by simp)) (denL_pairs fun c hc => h c (by simp [hc]))
theorem denL_zip {C : Ct} {F : Hp} {am : List Addr} : ∀ {vs : List V} {ds : List D}, DenL C F am vs ds → ∀ b ∈ vs.zip ds, Den C F am b.1 b.2
  | _, _, .nil, _, h => by cases h
  | _, _, .cons r t, b, h => by
    rw [List.zip_cons_cons] at h
    rcases List.mem_cons.mp h with rfl | h
    · exact r
    · exact denL_zip t b h
theorem sortP_snd {ys : List V} {ds : List D} (hl : ys.length = ds.length) : (sortP ys ds).map Prod.snd = sortD ds := by
  have eb : (ys.zip ds).map Prod.snd = ds := List.map_snd_zip (Nat.le_of_eq hl.symm)
  unfold sortP sortD
  rw [List.map_mergeSort (r := dataLe false Prod.snd) (s := dataLe false id) (f := Prod.snd) (fun a _ b _ => rfl), eb]
def oSortL (a : Bool × List D) (_ : S) : Option (List D) := if okSort a.2 = true then some (sortD a.2) else none
theorem cd_sorted {Rr : RR (List D)} (N : NewL (ct T X) Rr) (hu : X.A.units + 150 < cLine) : CallD T X (rQ (ct T X)) Rr (.builtin "sorted") oSortL :=
  ⟨_, cr_sortD (by omega), fun g s H x a c Q sr ra e h => by
    unfold oSortL at e
    obtain ⟨z, rfl⟩ := iteS e
    have z1 : okAlike a.2 = true := by unfold okSort at z; rw [Bool.and_eq_true] at z; exact z.1
    obtain ⟨k1, k2, k3⟩ := okAlike_all z1
    obtain ⟨p, vs, rfl, l, q⟩ := ra.at sr.sub
    refine ⟨p, vs, a.2, rfl, ?_, DenL.dp rfl sr.sub k2 l, k1, okSort_sortable z, k3, fun p np => ?_⟩
    · rcases q with ⟨_, q⟩ | ⟨_, q⟩
      · exact .inr q
      · exact .inl (.inl (.inl q))
    · have l2 : DenGL (ct T X) g ((sortP vs a.2).map Prod.fst) (sortD a.2) := by
        rw [← sortP_snd l.length]
        exact denL_pairs fun b hb => denL_zip l b ((List.mergeSort_perm _ _).mem_iff.mp hb)
      exact N.new h sr l2 np⟩
end
end Dn
namespace L2
open PySem PySem.Spec PySem.W PyProof.Rows
theorem fold_mem {f : PyData → PyData → Bool} : ∀ (xs : List PyData) (x : PyData), xs.foldl (fun a y => if f y a then y else a) x ∈ x :: xs
  | [], x => by simp
  | y :: ys, x => by
    rw [List.foldl_cons]
    have := fold_mem (f := f) ys (if f y x then y else x)
    rcases List.mem_cons.mp this with h | h
    · rw [h]
      split <;> simp
    · simp [h]
theorem minD_mem (x : PyData) (xs : List PyData) : minD x xs ∈ x :: xs := fold_mem (f := dataLt) xs x
theorem maxD_mem (x : PyData) (xs : List PyData) : maxD x xs ∈ x :: xs := fold_mem (f := fun y a => dataLt a y) xs x
theorem vals_at : ∀ {ys : List V} {us : List Value} {i : Nat} {v : Value}, Vals ys us → us[i]? = some v → ∃ y, ys[i]? = some y ∧ RelV y v
  | _, _, _, _, .nil, h => by simp at h
  | _, _, 0, _, .cons r _, h => by simp at h; subst h; exact ⟨_, rfl, r⟩
  | _, _, i + 1, v, .cons _ t, h => by
    obtain ⟨y, h1, h2⟩ := vals_at (i := i) (v := v) t (by simpa using h)
    exact ⟨y, by simpa using h1, h2⟩
theorem reads_at {h : Heap} : ∀ {us : List Value} {ds : List PyData} {as : List Addr} {i : Nat} {v : Value}, ReadsAll h us ds as → us[i]? = some v → ∃ d bs, ds[i]? = some d ∧ Reads h v d bs
  | _, _, _, _, _, .nil, h => by simp at h
  | _, _, _, 0, _, .cons r _, h => by simp at h; subst h; exact ⟨_, _, rfl, r⟩
  | _, _, _, i + 1, v, .cons _ t, h => by
    obtain ⟨d, bs, h1, h2⟩ := reads_at (i := i) (v := v) t (by simpa using h)
    exact ⟨d, bs, by simpa using h1, h2⟩
def rBestD (K : PySem.W.Frag) (best : PyData → List PyData → PyData) : List V → Hp → VK → Prop := fun vs H Q => ∃ (a : Addr) (ys : List V) (x : PyData) (xs : List PyData), vs = [V.ref a] ∧ (SqL K H a ys ∨ SqT K H a ys) ∧ DpAll K H ys (x :: xs) ∧ AllAlike (x :: xs) ∧ (∀ d ∈ x :: xs, d ≠ .none) ∧ PyData.depthAll (x :: xs) ≤ 60 ∧
  ∀ y, (y, best x xs) ∈ ys.zip (x :: xs) → Q y H
theorem best_fin {X : Cx} {pins : List (Addr × Obj)} {s : Shared} {σ : St} {H : Hp} {Q : VK} {ys : List V} {x m : PyData} {xs : List PyData} {its : List Value} {as bs : List Addr} {i : Nat} {v : Value} {h' : Heap} {tk : Nat} (I : Inv X pins σ H s) (rv : Vals ys its) (hr : ReadsAll s.heap its (x :: xs) as) (hal : AllAlike (x :: xs)) (hm : m ∈ x :: xs) (hv : its[i]? = some v) (rm : Reads h' v m bs) (k : ∀ b o, s.heap.get? b = some o → h'.get? b = some o) (q : ∀ y, (y, m) ∈ ys.zip (x :: xs) → Q y H) : EP X pins σ Q v { s with heap := h', toks := tk } := by
  obtain ⟨y, hy, ry⟩ := vals_at rv hv
  obtain ⟨d, cs, hd, rd⟩ := reads_at hr hv
  have hdm : d ∈ x :: xs := List.mem_of_getElem? hd
  have e : d = m := alike_unique d m v _ _ (hal d hdm m hm) (PyProof.Rows.Reads.keeps k rd) rm
  subst e
  refine ⟨y, H, I.kept k, ry, q y ?_⟩
  have hz : (ys.zip (x :: xs))[i]? = some (y, d) := by
    rw [List.getElem?_zip_eq_some]
    exact ⟨hy, hd⟩
  exact List.mem_of_getElem? hz
theorem cr_minD {X : Cx} (hc : X.calm = true) (hu : X.A.units + 100 < cLine) : CallR X (.builtin "min") (rBestD X.K minD) := by
  intro pins s σ H vs us Q I r h
  obtain ⟨a, ys, x, xs, rfl, hs, hd, hal, hn, hdp, q⟩ := h
  rw [Vals.ref1 r]
  rcases hs with hs | hs
  · obtain ⟨its, rv, pl, hz⟩ := I.list hs
    obtain ⟨as, hr⟩ := Dp.readsAll I (x :: xs) _ its hd rv
    exact min_list_data (I.ok.hd hc) pl.isList (by simpa using hr) ⟨fun d hd e he => hal d hd e he, hn⟩ (by omega) fun i v h' tk bs hv rm k => best_fin I rv hr hal (minD_mem x xs) (by simpa using hv) rm k q
  · obtain ⟨its, rv, pl, hz⟩ := I.tuple hs
    obtain ⟨as, hr⟩ := Dp.readsAll I (x :: xs) _ its hd rv
    exact min_tuple_data (I.ok.hd hc) pl (by simpa using hr) ⟨fun d hd e he => hal d hd e he, hn⟩ (by omega) fun i v h' tk bs hv rm k => best_fin I rv hr hal (minD_mem x xs) (by simpa using hv) rm k q
theorem cr_maxD {X : Cx} (hc : X.calm = true) (hu : X.A.units + 100 < cLine) : CallR X (.builtin "max") (rBestD X.K maxD) := by
  intro pins s σ H vs us Q I r h
  obtain ⟨a, ys, x, xs, rfl, hs, hd, hal, hn, hdp, q⟩ := h
  rw [Vals.ref1 r]
  rcases hs with hs | hs
  · obtain ⟨its, rv, pl, hz⟩ := I.list hs
    obtain ⟨as, hr⟩ := Dp.readsAll I (x :: xs) _ its hd rv
    exact max_list_data (I.ok.hd hc) pl.isList (by simpa using hr) ⟨fun d hd e he => hal d hd e he, hn⟩ (by omega) fun i v h' tk bs hv rm k => best_fin I rv hr hal (maxD_mem x xs) (by simpa using hv) rm k q
  · obtain ⟨its, rv, pl, hz⟩ := I.tuple hs
    obtain ⟨as, hr⟩ := Dp.readsAll I (x :: xs) _ its hd rv
    exact max_tuple_data (I.ok.hd hc) pl (by simpa using hr) ⟨fun d hd e he => hal d hd e he, hn⟩ (by omega) fun i v h' tk bs hv rm k => best_fin I rv hr hal (maxD_mem x xs) (by simpa using hv) rm k q
/-- sum of a tuple of ints -/
def rSumT (K : PySem.W.Frag) : List V → Hp → VK → Prop := fun vs H Q => ∃ (a : Addr) (ns : List Int), vs = [V.ref a] ∧ SqT K H a (ns.map V.int) ∧ Q (.int ns.sum) H
theorem cr_sumT {X : Cx} (hc : X.calm = true) : CallR X (.builtin "sum") (rSumT X.K) := by
  intro pins s σ H vs us Q I r h
  obtain ⟨a, ns, rfl, hs, q⟩ := h
  obtain ⟨its, rv, pl, _⟩ := I.tuple hs
  rw [Vals.ref1 r]
  obtain ⟨xs, e⟩ := rv.ints.allInts.items
  have hn : numsOf (intItems xs).toList = ns := by rw [← e]; exact rv.ints.numsOf
  rw [nums_intItems] at hn
  rw [e] at pl
  refine ktm_sumG (I.ok.hd hc) pl fun h' tk t' hk => ?_
  rw [preSum_eq, List.take_of_length_le (by simp), hn]
  exact ⟨.int _, H, I.kept hk, ⟨_, rfl⟩, q⟩
/-- t.count(x) -/
def rCntT (K : PySem.W.Frag) : V → List V → Hp → VK → Prop := fun x xs H Q => ∃ (a : Addr) (y : V) (d : PyData) (ds : List PyData), x = V.ref a ∧ xs = [y] ∧ Dp K H (V.ref a) (.tuple ds) ∧ Dp K H y d ∧ PyData.plainAll ds = true ∧ d.plain = true ∧ d.depth ≤ 60 ∧ Q (.int ((ds.countP fun z => PyData.eqv z d : Nat) : Int)) H
theorem mt_countT {X : Cx} (hu : X.A.units + 100 < cLine) : MtR X "tuple.count" (rCntT X.K) := by
  intro pins s σ H x xs v us Q I rx rxs h
  obtain ⟨a, y, d, ds, rfl, rfl, hl, hy, sl, sd, hdp, q⟩ := h
  cases rx
  cases rxs with
  | cons ry rt =>
    rename_i uy ut
    cases rt
    obtain ⟨bs, r1⟩ := Dp.reads I d y uy hy ry
    cases hl with
    | tup hs ha =>
      obtain ⟨its, rv, pl, hlen⟩ := I.tuple hs
      obtain ⟨as, h4⟩ := Dp.readsAll I ds _ its ha rv
      exact SeqAt.count_tuple_data pl (by simpa using h4) r1 sl sd (by have := Nat.min_le_right (PyData.depthAll ds) d.depth; omega) ⟨.int _, H, I.tok _, ⟨_, rfl⟩, q⟩
end L2
namespace Dn
open PySem PySem.Spec PySem.W PyProof.Rows L2
section
variable {T : Tb} {X : Cx} {W : WX}
def noNone (ds : List D) : Bool := ds.all fun d => match d with | .none => false | _ => true
def bestQ (best : D → List D → D) (ds : List D) : Option D := match ds with
  | [] => none
  | x :: xs => if (okAlike (x :: xs) && noNone (x :: xs)) = true then some (best x xs) else none
def oMinQ (a : Bool × List D) (_ : S) : Option D := bestQ minD a.2
def oMaxQ (a : Bool × List D) (_ : S) : Option D := bestQ maxD a.2
theorem best_read {best : D → List D → D} {g : Gh} {s : S} {H : Hp} {x : V} {a : Bool × List D} {c : D} {Q : VK} (sr : SR (ct T X) g s H) (ra : rQ (ct T X) g H x a) (e : bestQ best a.2 = some c) (h : Gv (ct T X) (rD (ct T X)) g H Q c s) : rBestD X.K best [x] H Q := by
  unfold bestQ at e
  split at e
  · cases e
  · rename_i y ys eq
    obtain ⟨z, rfl⟩ := iteS e
    rw [Bool.and_eq_true] at z
    obtain ⟨k1, k2, k3⟩ := okAlike_all z.1
    obtain ⟨p, vs, rfl, l, q⟩ := ra.at sr.sub
    rw [eq] at l
    refine ⟨p, vs, y, ys, rfl, ?_, DenL.dp rfl sr.sub k2 l, k1, fun d hd => ?_, k3, fun v hv => h.here sr (denL_zip l _ hv)⟩
    · rcases q with ⟨_, q⟩ | ⟨_, q⟩
      · exact .inr q
      · exact .inl (.inl (.inl q))
    · have := List.all_eq_true.mp z.2 d hd
      intro e
      rw [e] at this
      cases this
theorem cd_min (hc : X.calm = true) (hu : X.A.units + 150 < cLine) : CallD T X (rQ (ct T X)) (rD (ct T X)) (.builtin "min") oMinQ := ⟨_, cr_minD hc (by omega), fun g s H x a c Q sr ra e h => best_read sr ra e h⟩
theorem cd_max (hc : X.calm = true) (hu : X.A.units + 150 < cLine) : CallD T X (rQ (ct T X)) (rD (ct T X)) (.builtin "max") oMaxQ := ⟨_, cr_maxD hc (by omega), fun g s H x a c Q sr ra e h => best_read sr ra e h⟩
/-- sum of a list or a tuple -/
def oSumQ (a : Bool × List D) (_ : S) : Option D := (intsD a.2).map fun ns => .int ns.sum
theorem cd_sumQ (hc : X.calm = true) : CallD T X (rQ (ct T X)) (rD (ct T X)) (.builtin "sum") oSumQ :=
  ⟨_, CallR.or (cr_sum hc) (cr_sumT hc), fun g s H x a c Q sr ra e h => by
    obtain ⟨p, vs, rfl, l, q⟩ := ra.at sr.sub
    unfold oSumQ at e
    cases ei : intsD a.2 with
    | none => rw [ei] at e; cases e
    | some ns =>
      rw [ei] at e; cases e
      rw [intsD_eq ei] at l
      rcases q with ⟨b, q⟩ | ⟨b, q⟩
      · exact .inr ⟨p, ns, rfl, by rw [← l.ints]; exact q, h.here sr (.int _)⟩
      · exact .inl ⟨p, ns, rfl, .inl (.inl (by rw [← l.ints]; exact q)), h.here sr (.int _)⟩⟩
/-- gcd -/
def oGcd : D → D → S → Option D
  | .int a, .int b, _ => some (.int ((Nat.gcd a.natAbs b.natAbs : Nat) : Int))
  | _, _, _ => none
theorem de_gcd {x : Str} {p pos : Pos} {e e2 : Expr} {ma mb : M D} (hg : Gl X x) (hm : X.mg x = some (.builtin "math.gcd")) (ha : DE T X W e ma) (hb : DE T X W e2 mb) (hdb : (x == ("__debug__" : Str)) = false := by decide)
    (hs2 : starEach [e2] X.env = (false, eval e2 X.env) :: starEach [] X.env := by rfl) (hs : starEach [e, e2] X.env = (false, eval e X.env) :: starEach [e2] X.env := by rfl) (hpl : (backTo pos (starEach [e2] X.env)).any (·.1) = false := by rfl) : DE T X W (.Call (.Name x p) [e, e2] [] pos) (mBin oGcd ma mb) := by
  refine pe_imp (pe_callBfun cr_gcd hg hm (pa_cons ha (pa_cons hb pa_nil hs2) hs) hdb hs hpl) fun σ H Q q => ?_
  refine op2_core (r := fun x y H Q => rGcd [x, y] H Q) (stays_D _) (fun g s H x y a b c Q sr ra rb e h => ?_) σ H Q q
  cases a with
  | int i =>
    cases b with
    | int j =>
      cases e
      cases ra
      cases rb
      exact ⟨i, j, rfl, h.here sr (.int _)⟩
    | _ => cases e
  | _ => cases e
end
end Dn

set_option Elab.async false
set_option linter.all false
set_option maxRecDepth 100000
set_option maxHeartbeats 4000000
/-! what repr says is not too long -/
namespace Dn
open PySem PySem.Spec PyProof.Rows
structure Rp (n h : Nat) (d : D) : Prop where
  hd : d.hasDict = false
  sh : d.showable = true
  dp : d.depth ≤ h
  ln : d.shown.length ≤ n
theorem Rp.mono {n m h k : Nat} {d : D} (r : Rp n h d) (a : n ≤ m) (b : h ≤ k) : Rp m k d := ⟨r.hd, r.sh, Nat.le_trans r.dp b, Nat.le_trans r.ln a⟩
theorem rp_none {n h : Nat} (k : 4 ≤ n) : Rp n h .none := ⟨by simp only [PyData.hasDict], by simp only [PyData.showable], by simp only [PyData.depth]; omega, by
  simp only [PyData.shown]
  have : (("None" : String) : Str).length = 4 := rfl
  omega⟩
theorem rp_bool {n h : Nat} {b : Bool} (k : 5 ≤ n) : Rp n h (.bool b) := ⟨by simp only [PyData.hasDict], by simp only [PyData.showable], by simp only [PyData.depth]; omega, by
  simp only [PyData.shown]
  have h1 : (("True" : String) : Str).length = 4 := rfl
  have h2 : (("False" : String) : Str).length = 5 := rfl
  cases b <;> simp <;> omega⟩
theorem rp_int {n h : Nat} {i : Int} (a : i.natAbs < 10 ^ 48) (k : 49 ≤ n) : Rp n h (.int i) := ⟨by simp only [PyData.hasDict], by
  simp only [PyData.showable, decide_eq_true_eq]
  have : i.natAbs < 2 ^ 1920 := Nat.lt_trans a (by decide +kernel)
  by_cases z : i.natAbs = 0
  · rw [z]; decide
  · exact (Nat.log2_lt z).mpr this, by simp only [PyData.depth]; omega, by
  simp only [PyData.shown]
  have := int_text_length_le10 (k := 48) (by decide) a
  have e : ((toString i : String) : Str).length = (toString i).length := PySem.ofString_length _
  omega⟩
theorem rp_i {n h : Nat} {i : Int} (a : -1000000000000000000000000000000000000000000000000 < i ∧ i < 1000000000000000000000000000000000000000000000000) (k : 49 ≤ n) : Rp n h (.int i) := rp_int (by omega) k
theorem rp_str {n h : Nat} {x : Str} (hx : ∀ c ∈ x.cps.toList, c < 16 ^ 8) (k : 10 * x.length + 2 ≤ n) : Rp n h (.str x) := ⟨by simp only [PyData.hasDict], by simp only [PyData.showable], by simp only [PyData.depth]; omega, by
  simp only [PyData.shown]
  exact Nat.le_trans (StrLaws.reprText_len x hx) k⟩
theorem textFrom_le {n : Nat} : ∀ (ts : List Str) (k : Nat) (acc : Str), (∀ t ∈ ts, t.length ≤ n) → (textFrom k acc ts).length ≤ acc.length + ts.length * (n + 2)
  | [], k, acc, _ => by show acc.length ≤ _; omega
  | t :: r, k, acc, h => by
    have ih := textFrom_le r (k + 1) (acc ++ (if k > 0 then ", " else "" : String) ++ t) fun u hu => h u (by simp [hu])
    have ht := h t (by simp)
    have e : (acc ++ (if k > 0 then ", " else "" : String) ++ t).length = acc.length + (if k > 0 then 2 else 0) + t.length := by
      rw [strLen_append, strLen_append]
      split <;> rfl
    rw [e] at ih
    show (textFrom (k + 1) _ r).length ≤ _
    rw [List.length_cons, Nat.succ_mul]
    have : (if k > 0 then 2 else 0 : Nat) ≤ 2 := by split <;> omega
    omega
theorem piled_le {n : Nat} : ∀ ts : List Str, (∀ t ∈ ts, t.length ≤ n) → piled ts ≤ ts.length * (n + 2)
  | [], _ => by simp [piled]
  | t :: ts, h => by
    have := piled_le ts fun u hu => h u (by simp [hu])
    have := h t (by simp)
    rw [piled_cons, List.length_cons, Nat.succ_mul]
    omega
theorem listText_le {n : Nat} (ts : List Str) (h : ∀ t ∈ ts, t.length ≤ n) : (listText ts).length ≤ ts.length * (n + 2) + 2 := by
  unfold listText
  rw [strLen_append]
  have := textFrom_le ts 0 "[" h
  have e1 : (("[" : String) : Str).length = 1 := rfl
  have e2 : (("]" : String) : Str).length = 1 := rfl
  omega
theorem tupleText_le {n : Nat} (ts : List Str) (h : ∀ t ∈ ts, t.length ≤ n) : (tupleText ts).length ≤ ts.length * (n + 2) + 3 := by
  unfold tupleText
  rw [strLen_append, strLen_append]
  have e1 : (("(" : String) : Str).length = 1 := rfl
  have e3 : (((if ts.length == 1 then ",)" else ")" : String) : Str)).length ≤ 2 := by split <;> decide
  have := piled_le ts h
  by_cases z : ts = []
  · subst z
    have : (Str.join ", " []).length = 0 := rfl
    omega
  · have := join_length_add ts z
    omega
theorem shownAll_map : ∀ ds : List D, PyData.shownAll ds = ds.map PyData.shown
  | [] => rfl
  | d :: ds => by rw [PyData.shownAll, shownAll_map ds]; rfl
theorem rp_all {n h : Nat} : ∀ {ds : List D}, (∀ d ∈ ds, Rp n h d) → PyData.hasDictAll ds = false ∧ PyData.showableAll ds = true ∧ PyData.depthAll ds ≤ h
  | [], _ => ⟨by rw [PyData.hasDictAll], by rw [PyData.showableAll], by rw [PyData.depthAll]; omega⟩
  | d :: ds, k => by
    obtain ⟨a, b, c⟩ := rp_all (ds := ds) fun e he => k e (by simp [he])
    have q := k d (by simp)
    exact ⟨by rw [PyData.hasDictAll, q.hd, a]; rfl, by rw [PyData.showableAll, q.sh, b]; rfl, by rw [PyData.depthAll]; have := q.dp; omega⟩
theorem rp_list {n h m N : Nat} {ds : List D} (hl : ds.length ≤ m) (k : ∀ d ∈ ds, Rp n h d) (hN : m * (n + 2) + 3 ≤ N) : Rp N (h + 1) (.list ds) := by
  obtain ⟨a, b, c⟩ := rp_all k
  refine ⟨by rw [PyData.hasDict]; exact a, by rw [PyData.showable]; exact b, by rw [PyData.depth]; omega, ?_⟩
  rw [PyData.shown, shownAll_map]
  have := listText_le (n := n) (ds.map PyData.shown) fun t ht => by
    obtain ⟨d, hd, rfl⟩ := List.mem_map.mp ht
    exact (k d hd).ln
  rw [List.length_map] at this
  have := Nat.mul_le_mul_right (n + 2) hl
  omega
theorem rp_tup {n h m N : Nat} {ds : List D} (hl : ds.length ≤ m) (k : ∀ d ∈ ds, Rp n h d) (hN : m * (n + 2) + 3 ≤ N) : Rp N (h + 1) (.tuple ds) := by
  obtain ⟨a, b, c⟩ := rp_all k
  refine ⟨by rw [PyData.hasDict]; exact a, by rw [PyData.showable]; exact b, by rw [PyData.depth]; omega, ?_⟩
  rw [PyData.shown, shownAll_map]
  have := tupleText_le (n := n) (ds.map PyData.shown) fun t ht => by
    obtain ⟨d, hd, rfl⟩ := List.mem_map.mp ht
    exact (k d hd).ln
  rw [List.length_map] at this
  have := Nat.mul_le_mul_right (n + 2) hl
  omega
theorem rpl_nil {n h : Nat} : ∀ d ∈ ([] : List D), Rp n h d := fun _ h => by cases h
theorem rpl_cons {n h : Nat} {d : D} {ds : List D} (a : Rp n h d) (b : ∀ d ∈ ds, Rp n h d) : ∀ e ∈ d :: ds, Rp n h e := fun e he => by
  rcases List.mem_cons.mp he with he | he
  · rw [he]; exact a
  · exact b e he
theorem rpl_ints {n h : Nat} {ns : List Int} (a : ∀ i ∈ ns, -1000000000000000000000000000000000000000000000000 < i ∧ i < 1000000000000000000000000000000000000000000000000) (k : 49 ≤ n) : ∀ d ∈ ns.map PyData.int, Rp n h d := fun e he => by
  obtain ⟨i, hi, rfl⟩ := List.mem_map.mp he
  exact rp_i (a i hi) k
theorem oRepr_ok {n h : Nat} {d : D} {s : S} (r : Rp n h d) (hn : n ≤ 16777216 := by decide) (hh : h ≤ 60 := by decide) : oRepr d s = some (.str d.shown) := by
  unfold oRepr
  exact if_pos ⟨r.hd, r.sh, Nat.le_trans r.dp hh, Nat.le_trans r.ln (by rw [sizeLine_eq]; exact hn)⟩
end Dn

set_option Elab.async false
set_option linter.all false
set_option maxRecDepth 100000
set_option maxHeartbeats 4000000
/-! sets made of a list or a tuple of ints and texts: sorted(set(..)), len(set(..)) -/
namespace SetM
open PySem PySem.Spec PyProof.Rows L2
/-- the set at a, member by member with the values that stand for them -/
def Has (P : Program) (w : World) (h : Heap) (a : Addr) (ps : List (Key × Value)) : Prop :=
  ∃ o es ep t, h.get? a = some o ∧ o.ExactSet ∧ o.data = .set es ep t ∧ es.toList.Perm (ps.map fun p => ((mixKind P w).hash p.1, p.2)) ∧ (∀ p ∈ ps, (mixKind P w).is p.1 p.2 = true ∧ p.2.scannable = true) ∧ (ps.map Prod.fst).Nodup ∧
    es.size < scanBound ∧ t.fits es.size = true ∧ Ris t.place.toList ∧ (w.params.followText "set-order" = true ∨ t.led = true)
section
variable {P : Program} {w : World} {h h' : Heap} {a : Addr} {ps : List (Key × Value)} {es : Array (Int × Value)}
theorem Has.at (R : Has P w h a ps) (k : ∀ o, h.get? a = some o → h'.get? a = some o) : Has P w h' a ps := by
  obtain ⟨o, es, ep, t, ho, r⟩ := R
  exact ⟨o, es, ep, t, k o ho, r⟩
theorem elems (pm : es.toList.Perm (ps.map fun p => ((mixKind P w).hash p.1, p.2))) (g : ∀ p ∈ ps, (mixKind P w).is p.1 p.2 = true ∧ p.2.scannable = true) : ElemsOf (mixKind P w) es.toList := fun e he => by
  obtain ⟨p, hp, rfl⟩ := List.mem_map.mp (pm.mem_iff.mp he)
  exact ⟨⟨p.1, (g p hp).1, rfl⟩, (g p hp).2⟩
end
section
variable {P : Program} {w : World} {A : Around} {E : Value → Shared → Prop} {s : Shared} {a : Addr} {ps : List (Key × Value)}
theorem tail {g : Bool → Sem Unit} (hg : ∀ (b : Bool) (s₁ : Shared) (Q' : Unit → Shared → Prop), Q' () s₁ → wpAny (model P w) A (g b) Q' E s₁)
    {o : Obj} {es : Array (Int × Value)} {ep : Nat} {t : SetTable} (ho : s.heap.get? a = some o) (hex : o.ExactSet) (hd : o.data = .set es ep t)
    {es1 : Array (Int × Value)} {t2 : SetTable} {ps' : List (Key × Value)} (pm1 : es1.toList.Perm (ps'.map fun p => ((mixKind P w).hash p.1, p.2))) (g1 : ∀ p ∈ ps', (mixKind P w).is p.1 p.2 = true ∧ p.2.scannable = true) (nd1 : (ps'.map Prod.fst).Nodup)
    (hb1 : es1.size < scanBound) (hf2 : t2.fits es1.size = true) (hr : Ris t2.place.toList) (hl : w.params.followText "set-order" = true ∨ t2.led = true) {wasDummy : Bool} {R : Option Bool → Shared → Prop}
    (hR : ∀ h', Heap.SameBut a s.heap h' → Has P w h' a ps' → R (some true) { s with heap := h' }) :
    wpAny (model P w) A (do
        storeSet a es1 t2
        if (!wasDummy && t2.tooFull) = true then do
            g (relayAll t2 es1 (SetTable.grown es1.size)).2.2
            storeSet a (relayAll t2 es1 (SetTable.grown es1.size)).1 (relayAll t2 es1 (SetTable.grown es1.size)).2.1
            pure (some true)
          else pure (some true)) R E s := by
  refine wpAny_bind (wpAny_storeSet_of ho hd ?_ (fits_of_scanBound hb1))
  have ho1 := store_at (es' := es1) (t' := t2) ho hd
  have sb1 := Heap.SameBut.update s.heap a (Obj.putSet es1 t2)
  split
  · have pr := relayAll_perm t2 es1 (SetTable.grown es1.size)
    have hf3 := relayAll_fits t2 es1 (SetTable.grown es1.size)
    have hr3 := relayAll_ris t2 es1 (SetTable.grown es1.size)
    have hl3 := relayAll_led t2 es1 (SetTable.grown es1.size)
    generalize relayAll t2 es1 (SetTable.grown es1.size) = Z at pr hf3 hr3 hl3 ⊢
    obtain ⟨es2, t3, gave⟩ := Z
    dsimp only at pr hf3 hr3 hl3 ⊢
    have hsz : es2.size = es1.size := by rw [← Array.length_toList, pr.length_eq, Array.length_toList]
    have hb2 : es2.size < scanBound := by rw [hsz]; exact hb1
    refine wpAny_bind (hg _ _ _ (wpAny_bind (wpAny_storeSet_of ho1 rfl ?_ (fits_of_scanBound hb2))))
    have ho2 := store_at (es' := es2) (t' := t3) ho1 rfl
    exact wpAny_pure (hR _ (sb1.trans (Heap.SameBut.update _ a _)) ⟨_, es2, _, t3, ho2, hex, rfl, pr.trans pm1, g1, nd1, hb2, hf3, hr3, hl.imp id fun z => by rw [hl3]; exact z⟩)
  · exact wpAny_pure (hR _ sb1 ⟨_, es1, _, t2, ho1, hex, rfl, pm1, g1, nd1, hb1, hf2, hr, hl⟩)
/-- one more -/
theorem add {k : Key} {v : Value} {Q : Bool → Shared → Prop} (R : Has P w s.heap a ps) (hkey : (mixKind P w).is k v = true) (hsc : v.scannable = true) (room : ps.length + 1 < scanBound)
    (hQ : ∀ b h' ps', Heap.SameBut a s.heap h' → Has P w h' a ps' → ((ps' = ps ∧ k ∈ ps.map Prod.fst) ∨ (ps' = (k, v) :: ps ∧ k ∉ ps.map Prod.fst)) → Q b { s with heap := h' }) :
    wpAny (model P w) A (setAddHashed a v ((mixKind P w).hash k)) Q E s := by
  obtain ⟨o, es, ep, t, ho, hex, hd, pm, g, nd, hb, hf, hr, hl⟩ := R
  have hel : ElemsOf (mixKind P w) es.toList := elems pm g
  have hlen : es.size = ps.length := by rw [← Array.length_toList, pm.length_eq, List.length_map]
  unfold setAddHashed setAddHashedIn
  refine wpAny_holding (wpAny_bind (wpAny_setState_of ho hd hf ?_))
  dsimp only
  rw [byScan_of hsc hb hel]
  simp only [↓reduceIte]
  unfold setAddByScan
  refine wpAny_bind ?_
  refine wpAny_bind (wpAny_rule ?_)
  refine wpAny_bind (wpAny_setScan_of hkey ho hd hf hel ?_)
  cases hfi : List.findIdx? (fun e => (mixKind P w).is k e.2) es.toList with
  | some j =>
    dsimp only
    obtain ⟨hj, pj, _⟩ := List.findIdx?_eq_some_iff_getElem.mp hfi
    obtain ⟨p, hp, ep'⟩ := List.mem_map.mp (pm.mem_iff.mp (List.getElem_mem hj))
    have ek : p.1 = k := (mixKind P w).inj p.2 p.1 k (g p hp).1 (by rw [← ep'] at pj; exact pj)
    exact wpAny_pure (wpAny_pure (hQ _ s.heap ps (Heap.SameBut.refl a s.heap) ⟨o, es, ep, t, ho, hex, hd, pm, g, nd, hb, hf, hr, hl⟩ (.inl ⟨rfl, List.mem_map.mpr ⟨p, hp, ek⟩⟩)))
  | none =>
    dsimp only
    have hnk : k ∉ ps.map Prod.fst := fun z => by
      obtain ⟨p, hp, rfl⟩ := List.mem_map.mp z
      have c := List.findIdx?_eq_none_iff.mp hfi ((mixKind P w).hash p.1, p.2) (pm.mem_iff.mpr (List.mem_map.mpr ⟨p, hp, rfl⟩))
      rw [(g p hp).1] at c
      cases c
    have hgw : ∀ (b : Bool) {s₁ : Shared} {Q' : Unit → Shared → Prop}, Q' () s₁ → wpAny (model P w) A (match b with | true => rule "set.scan.the-table-gave-way" | false => pure ()) Q' E s₁ :=
      fun b s₁ Q' q => by cases b <;> first | exact wpAny_pure q | exact wpAny_rule q
    have pn := layNew_perm t es ((mixKind P w).hash k) v
    have hf1 := layNew_fits t es ((mixKind P w).hash k) v
    have hr1 := layNew_ris t es ((mixKind P w).hash k) v hr
    have hl1 := layNew_led t es ((mixKind P w).hash k) v
    generalize layNew t es ((mixKind P w).hash k) v = Z at pn hf1 hr1 hl1 ⊢
    obtain ⟨es1, t1, wasDummy, gave⟩ := Z
    dsimp only at pn hf1 hr1 hl1 ⊢
    rw [Array.toList_push] at pn
    have pc : es1.toList.Perm (((k, v) :: ps).map fun p => ((mixKind P w).hash p.1, p.2)) := (pn.trans (List.perm_append_singleton _ _)).trans (List.Perm.cons _ pm)
    have g1 : ∀ p ∈ (k, v) :: ps, (mixKind P w).is p.1 p.2 = true ∧ p.2.scannable = true := fun p hp => by
      rcases List.mem_cons.mp hp with z | z
      · rw [z]; exact ⟨hkey, hsc⟩
      · exact g p z
    have nd1 : (((k, v) :: ps).map Prod.fst).Nodup := List.nodup_cons.mpr ⟨hnk, nd⟩
    have hsz : es1.size = ps.length + 1 := by rw [← Array.length_toList, pc.length_eq, List.length_map, List.length_cons]
    have hb1 : es1.size < scanBound := by rw [hsz]; exact room
    have hled : w.params.followText "set-order" = true ∨ t1.led = true := hl.imp id fun z => by rw [hl1]; exact z
    have fin : ∀ h', Heap.SameBut a s.heap h' → Has P w h' a ((k, v) :: ps) → Q true { s with heap := h' } := fun h' sb r => hQ true h' _ sb r (.inr ⟨rfl, hnk⟩)
    refine wpAny_bind (hgw _ ?_)
    split
    · refine wpAny_bind ?_
      rw [hashByValue_scannable 8 hsc]
      refine wpAny_pure ?_
      refine tail ?_ ho hex hd pc g1 nd1 hb1 ?_ ?_ ?_ ?_
      · intro b s₁ Q' q; cases b <;> first | exact wpAny_pure q | exact wpAny_rule q
      · first | (split <;> first | exact hf1 | exact SetTable.fits_plain_off hf1) | exact hf1
      · first | (split <;> exact hr1) | exact hr1
      · first | (split <;> exact hled) | exact hled
      · intro h' sb r; dsimp only; exact wpAny_pure (fin h' sb r)
    · refine wpAny_bind (wpAny_pure ?_)
      simp only [↓reduceIte]
      refine tail ?_ ho hex hd pc g1 nd1 hb1 hf1 hr1 hled ?_
      · intro b s₁ Q' q; cases b <;> first | exact wpAny_pure q | exact wpAny_rule q
      · intro h' sb r; dsimp only; exact wpAny_pure (fin h' sb r)
end
end SetM

set_option Elab.async false
set_option linter.all false
set_option maxRecDepth 100000
set_option maxHeartbeats 4000000
namespace SetM
open PySem PySem.Spec PyProof.Rows L2
theorem is_scan {P : Program} {w : World} {k : Key} {v : Value} (h : (mixKind P w).is k v = true) : v.scannable = true := by
  rw [mixKind_is] at h
  rcases keyIs_shape h with ⟨i, t, rfl, rfl⟩ | ⟨x, t, rfl, rfl⟩ <;> rfl
theorem is_rel {P : Program} {w : World} {k : Key} {v : Value} (h : (mixKind P w).is k v = true) : RelV (kV k) v := by
  rw [mixKind_is] at h
  rcases keyIs_shape h with ⟨i, t, rfl, rfl⟩ | ⟨x, t, rfl, rfl⟩ <;> exact ⟨_, rfl⟩
section
variable {P : Program} {w : World} {A : Around} {E : Value → Shared → Prop} {s : Shared}
theorem new_at {h : Heap} {a : Addr} (ho : h.get? a = some { cls := .type "set", dict := none, data := .set #[] 0 (.fresh 0 0 (!w.params.followText "set-order")) }) : Has P w h a [] :=
  ⟨_, #[], 0, _, ho, ⟨rfl, rfl, rfl⟩, rfl, (by simp), (fun p hp => by cases hp), List.Pairwise.nil, (by decide), (by rfl), List.Pairwise.nil, by
    show _ ∨ (!w.params.followText "set-order") = true
    cases w.params.followText "set-order"
    · exact .inr rfl
    · exact .inl rfl⟩
theorem loop {I : Addr} {fp wr : List Addr} {G : Array GenState → Array GenState → Prop} {n : Nat} {Pv : Nat → Value → Prop} {St : Nat → Shared → Prop} {R : Result → Shared → Prop}
    (W : WalksS P w A.in1 I fp wr G n Pv St) (S : Addr) (hSf : S ∉ fp) (ks : List Key) (hn : n = ks.length) (hb : ks.length + 1 < scanBound) (hval : ∀ i v, Pv i v → ∃ k, ks[i]? = some k ∧ (mixKind P w).is k v = true) :
    ∀ (k i : Nat) (s : Shared), n - i = k → i ≤ n → St i s → (∃ ps, ps.length ≤ i ∧ (∀ k, k ∈ ps.map Prod.fst ↔ k ∈ ks.take i) ∧ Has P w s.heap S ps) →
      (∀ s' ps, Moved (S :: wr) G s s' → ps.length ≤ n → (∀ k, k ∈ ps.map Prod.fst ↔ k ∈ ks) → Has P w s'.heap S ps → R (.ok (.ret .none)) s') →
      codeAny (model P w) A (.builtin "set.update.loop" ⟨[.ref S, .ref I], []⟩) R s := by
  have hSw : S ∉ wr := fun h => hSf (W.sub _ h)
  have hsub : ∀ b ∈ wr, b ∈ S :: wr := fun b hb => List.mem_cons_of_mem _ hb
  intro k
  induction k with
  | zero =>
    intro i s hk' hi hst ⟨ps, hc, hm0, hS⟩ hR
    have hin : i = n := by omega
    subst hin
    refine codeAny_builtin F.entry_set_update_loop ?_
    rw [Around.under_plainId F.plain_set_update_loop _]
    show wpAny _ A.in1 (pyNext (.ref I) >>= _) _ _ s
    refine wpAny_bind (W.done s _ _ hst fun s' hm => ?_)
    show wpAny _ A.in1 (ret Value.none) _ _ s'
    have e : ks.take i = ks := List.take_of_length_le (by omega)
    rw [e] at hm0
    exact wpAny_pure (hR s' ps (hm.mono hsub) hc hm0 (hS.at fun o e => hm.heap S o hSw e))
  | succ k ih =>
    intro i s hk' hi hst ⟨ps, hc, hm0, hS⟩ hR
    have hlt : i < n := by omega
    refine codeAny_builtin F.entry_set_update_loop ?_
    rw [Around.under_plainId F.plain_set_update_loop _]
    show wpAny _ A.in1 (pyNext (.ref I) >>= _) _ _ s
    refine wpAny_bind (W.item i s _ _ hlt hst fun v s' hP hst' hm => ?_)
    obtain ⟨z, hz, hv⟩ := hval i v hP
    have hS' : Has P w s'.heap S ps := hS.at fun o e => hm.heap S o hSw e
    show wpAny _ A.in1 (holding [v] (setAdd S v) >>= _) _ _ s'
    refine wpAny_bind (wpAny_holding ?_)
    unfold setAdd
    refine wpAny_holding ?_
    refine wpAny_bind ((mixKind P w).pyHash (k := z) hv ?_)
    refine add (s := { s' with toks := s'.toks + 1 }) hS' hv (is_scan hv) (by omega) fun b h' ps' hsb hS2 hd => ?_
    have hc3 : ps'.length ≤ i + 1 := by
      rcases hd with ⟨e, _⟩ | ⟨e, _⟩
      · rw [e]; omega
      · rw [e, List.length_cons]; omega
    have hm1 : ∀ k, k ∈ ps'.map Prod.fst ↔ k ∈ ks.take (i + 1) := fun k => by
      rw [List.take_add_one, hz]
      rcases hd with ⟨e, m⟩ | ⟨e, m⟩
      · rw [e, hm0]
        rw [hm0] at m
        simp only [List.mem_append, Option.toList, List.mem_singleton]
        exact ⟨.inl, fun h => h.elim id fun e => e ▸ m⟩
      · rw [e, List.map_cons, List.mem_cons, hm0]
        simp only [List.mem_append, Option.toList, List.mem_singleton]
        exact or_comm
    refine wpAny_pure ⟨plainId_quiet F.plain_set_update_loop _, ih (i + 1) _ (by omega) hlt (W.frame _ s' _ _ hst' (Nat.le_succ _) fun b hb o e => ?_) ⟨_, hc3, hm1, hS2⟩ fun s'' c2 hm'' hc'' hk'' hS'' => ?_⟩
    · rw [hsb.2 b (fun h : b = S => hSf (by rw [← h]; exact hb))]; exact e
    · refine hR s'' c2 (Moved.trans W.gtrans ((hm.mono hsub).then_heap (Nat.le_succ _) fun b o hb e => ?_) hm'') hc'' hk'' hS''
      rw [hsb.2 b (fun h : b = S => hb (by rw [h]; exact List.mem_cons_self))]; exact e
/-- the same by place -/
def KeysAre (P : Program) (w : World) (ks : List Key) (items : Array Value) : Prop := items.size = ks.length ∧ ∀ (i : Nat) (v : Value), items[i]? = some v → ∃ k, ks[i]? = some k ∧ (mixKind P w).is k v = true
/-- what set(..) asks of what it is made of -/
structure Src (P : Program) (w : World) (l : Addr) (T IT : String) (items : Array Value) (Lay : Heap → Prop) (Itr : Addr → Nat → Heap → Prop) : Prop where
  cls : ∀ h, Lay h → ∃ o, h.get? l = some o ∧ o.cls = .type T
  push : ∀ h o, Lay h → Lay (h.push o)
  iter : ∀ {A : Around} {E : Value → Shared → Prop} {s : Shared} {Q : Value → Shared → Prop}, Lay s.heap → Q (.ref s.heap.objs.size) { s with heap := s.heap.push { cls := .type IT, data := .fields #[.ref l, .int 0 0] } } → wpAny (model P w) A (pyIter (.ref l)) Q E s
  walk : ∀ {A : Around} (I : Addr), A.handled = none → l ≠ I → Walks P w A I [I, l] [I] items.size (fun i v => items[i]? = some v) (fun i h => Itr I i h ∧ Lay h)
  itr : ∀ (I : Addr) (h : Heap), h.get? I = some { cls := .type IT, data := .fields #[.ref l, .int 0 0] } → Itr I 0 h
  notSet : isSubtype (.type T) (.type "set") = pure false
  notFrz : isSubtype (.type T) (.type "frozenset") = pure false
  notDict : (Value.type T == Value.type "dict") = false
theorem Src.list (l : Addr) (items : Array Value) : Src P w l "list" "list_iterator" items (fun h => h.IsList l items) (fun I i h => h.IsListIter I l i) where
  cls := fun h ⟨o, ho, hc, _⟩ => ⟨o, ho, hc⟩
  push := fun h o x => x.push _
  iter := fun x q => wpAny_pyIter_list x q
  walk := fun I hh hne => Walks.list hh I l hne items
  itr := fun I h x => ⟨_, x, rfl, rfl⟩
  notSet := F.sub_list_set
  notFrz := F.sub_list_frozenset
  notDict := by decide
theorem Src.tuple (l : Addr) (items : Array Value) : Src P w l "tuple" "tuple_iterator" items (fun h => h.IsTuple l items) (fun I i h => h.IsTupleIter I l i) where
  cls := fun h ⟨o, ho, hc, _⟩ => ⟨o, ho, hc⟩
  push := fun h o x => x.push _
  iter := fun x q => wpAny_pyIter_tuple x q
  walk := fun I hh hne => Walks.tuple hh I l hne items
  itr := fun I h x => ⟨_, x, rfl, rfl⟩
  notSet := F.sub_tuple_set
  notFrz := F.sub_tuple_frozenset
  notDict := by decide
set_option maxRecDepth 100000 in
set_option maxHeartbeats 3200000 in
theorem call_set_of {l : Addr} {T IT : String} {items : Array Value} {Lay : Heap → Prop} {Itr : Addr → Nat → Heap → Prop} (SS : Src P w l T IT items Lay Itr) (ks : List Key) {Q : Value → Shared → Prop} (hh : A.handled = none) (hl : Lay s.heap) (hit : KeysAre P w ks items) (hb : ks.length + 1 < scanBound)
    (h : ∀ (h' : Heap) (tk : Nat) (ps : List (Key × Value)), Has P w h' s.heap.objs.size ps → ps.length ≤ ks.length → (∀ k, k ∈ ps.map Prod.fst ↔ k ∈ ks) → (∀ b o, s.heap.get? b = some o → h'.get? b = some o) → Q (.ref s.heap.objs.size) { s with heap := h', toks := tk }) :
    wpAny (model P w) A (call (.type "set") [.ref l]) Q E s := by
  have hisz : items.size = ks.length := hit.1
  obtain ⟨c, tl, hmro⟩ := F.called_set.mro
  have hmade := F.called_set.made
  have hsub := F.called_set.sub
  refine wpAny_call (codeAny_of_tree ?_)
  show wpAny _ _ (callAny (.type "set") _) _ _ _
  refine wpAny_pure ⟨Code.quiet_builtin _ (by decide +kernel), codeAny_builtin F.entry_type_call ?_⟩
  rw [Around.under_plain (weight_type_call_type "set" [.ref l] []) rfl]
  have h1 := F.called_set.notType
  have h2 := F.called_set.canCreate
  have hct := F.typeCall_set_1 (.ref l)
  repeat (any_goals (first | assumption | wp_step))

  refine codeAny_mono (code_set_led1 (.ref l) (E := E) (Q₁ := fun obj s₁ => obj = .ref s.heap.objs.size ∧ s₁ = { s with heap := s.heap.push { cls := .type "set", dict := none, data := .set #[] 0 (.fresh 0 0 (!w.params.followText "set-order")) } }) ⟨rfl, rfl⟩) fun r s₁ hr => ?_
  cases r with
  | error e => exact hr
  | ok fl =>
    cases fl with
    | ret obj =>
      obtain ⟨rfl, rfl⟩ := hr
      have hS : (s.heap.push { cls := .type "set", dict := none, data := .set #[] 0 (.fresh 0 0 (!w.params.followText "set-order")) }).get? s.heap.objs.size = some { cls := .type "set", dict := none, data := .set #[] 0 (.fresh 0 0 (!w.params.followText "set-order")) } := Heap.get?_push_size _ rfl
      have hT : Shared.TypeIs { s with heap := s.heap.push { cls := .type "set", dict := none, data := .set #[] 0 (.fresh 0 0 (!w.params.followText "set-order")) } } (.ref s.heap.objs.size) "set" := ⟨_, hS, rfl⟩
      have hli := F.called_set.init.lookup
      have hbi := F.called_set.init.bind (.ref s.heap.objs.size)
      repeat (any_goals (first | assumption | wp_step))

      refine codeAny_mono (codeAny_call_builtin (R := wants (fun r s₂ => r = .none ∧ ∃ h' tk ps, s₂ = { s with heap := h', toks := tk } ∧ Has P w h' s.heap.objs.size ps ∧ ps.length ≤ ks.length ∧ (∀ k, k ∈ ps.map Prod.fst ↔ k ∈ ks) ∧
          (∀ b o, s.heap.get? b = some o → h'.get? b = some o)) E) F.called_set.init.plain F.entry_set_init (check_set_init_1 hT ?_)) fun r₂ s₂ hr₂ => ?_
      · obtain ⟨ol, hol, hcl⟩ := SS.cls _ hl
        have hl1 := SS.push _ { cls := .type "set", dict := none, data := .set #[] 0 (.fresh 0 0 (!w.params.followText "set-order")) } hl
        obtain ⟨ol1, hol1, hcl1⟩ := SS.cls _ hl1
        have hsls := SS.notSet
        have hslf := SS.notFrz
        have hne := SS.notDict
        obtain ⟨ocls, odict, odata, oslots⟩ := ol1
        simp only at hcl1
        subst hcl1
        unfold Builtin.«set.__init__» noKeywords Builtin.Frozenset.updateFrom
        generalize hPI : pyIter = PI
        wp_walk
        subst hPI

        refine SS.iter hl1 ?_
        refine wpAny_bind (wpAny_runValue ?_)
        have hlS : l < s.heap.objs.size := Heap.lt_size hol
        have hh3 : A.in1.in1.in1.handled = none := by simp [hh]
        have hz1 : (s.heap.push { cls := .type "set", dict := none, data := .set #[] 0 (.fresh 0 0 (!w.params.followText "set-order")) }).objs.size = s.heap.objs.size + 1 := Heap.size_push ..
        have hneI : l ≠ (s.heap.push { cls := .type "set", dict := none, data := .set #[] 0 (.fresh 0 0 (!w.params.followText "set-order")) }).objs.size := by
          rw [Heap.size_push]; exact Nat.ne_of_lt (Nat.lt_succ_of_lt hlS)
        have hSf : s.heap.objs.size ∉ [(s.heap.push { cls := .type "set", dict := none, data := .set #[] 0 (.fresh 0 0 (!w.params.followText "set-order")) }).objs.size, l] := by
          rw [Heap.size_push]; simp only [List.mem_cons, List.mem_singleton, List.not_mem_nil, or_false, not_or]
          exact ⟨Nat.ne_of_lt (Nat.lt_succ_self _), Nat.ne_of_gt hlS⟩
        refine loop ((SS.walk _ hh3 hneI).toS) s.heap.objs.size
          hSf ks hisz hb hit.2 (items.size - 0) 0 _ (by omega) (Nat.zero_le _)
          ⟨SS.itr _ _ (Heap.get?_push_size _ rfl), SS.push _ _ hl1⟩ ?hS0 ?hR
        case hS0 =>
          have hget : ((s.heap.push { cls := .type "set", dict := none, data := .set #[] 0 (.fresh 0 0 (!w.params.followText "set-order")) }).push { cls := .type IT, data := .fields #[.ref l, .int 0 0] }).get? s.heap.objs.size
              = some { cls := .type "set", dict := none, data := .set #[] 0 (.fresh 0 0 (!w.params.followText "set-order")) } := Heap.get?_push_of_some _ hS
          exact ⟨[], Nat.le_refl 0, fun k => by simp, new_at hget⟩
        case hR =>
          intro s' c' hm hc' hm' hS'
          obtain ⟨h', g2, d', tk', os'⟩ := s'
          have eg : g2 = s.gens := hm.gens
          have ed : d' = s.drawn := hm.drawn
          have eo : os' = s.os := hm.os
          subst eg; subst ed; subst eo
          show wpAny _ _ _ _ _ _
          refine wpAny_pure ?_
          show wpAny _ _ (ret Value.none) _ _ _
          rw [hisz] at hc'
          refine wpAny_pure ⟨rfl, h', tk', c', rfl, hS', hc', hm', fun b o e => ?_⟩
          have hb0 : b < s.heap.objs.size := Heap.lt_size e
          have hb1 : b ≠ s.heap.objs.size := Nat.ne_of_lt hb0
          have hb2 : b ≠ (s.heap.push { cls := .type "set", dict := none, data := .set #[] 0 (.fresh 0 0 (!w.params.followText "set-order")) }).objs.size := by
            rw [Heap.size_push]; exact Nat.ne_of_lt (Nat.lt_succ_of_lt hb0)
          exact hm.heap b o (by simp only [List.mem_cons, List.mem_singleton, List.not_mem_nil, or_false, not_or]; exact ⟨hb1, hb2⟩) (Heap.get?_push_of_some _ (Heap.get?_push_of_some _ e))

      · cases r₂ with
        | error e => exact hr₂
        | ok fl₂ =>
          cases fl₂ with
          | ret r =>
            obtain ⟨rfl, h', tk, c', rfl, hS', hc', hm', hk'⟩ := hr₂
            repeat (any_goals (first | assumption | wp_step))
            exact h _ _ _ hS' hc' hm' hk'
          | _ => exact hr₂.elim
    | _ => exact hr.elim

end
end SetM

set_option Elab.async false
set_option linter.all false
set_option maxRecDepth 100000
set_option maxHeartbeats 4000000
namespace SetM
open PySem PySem.Spec PySem.W PySem.Calls PyProof.Rows L2
/-- ints, or texts -/
structure Kd (α : Type) [BEq α] [LawfulBEq α] where
  key : α → Key
  enc : α → PyData
  inj : ∀ a b, key a = key b → a = b
  le : α → α → Bool
  leq : dataLe false enc = le
  tot : ∀ a b, (le a b || le b a) = true
  trn : ∀ a b c, le a b = true → le b c = true → le a c = true
  anti : ∀ a b, le a b = true → le b a = true → a = b
  reads : ∀ (h : Heap) u a, RelV (kV (key a)) u → Reads h u (enc a) []
  like : ∀ a b, alike (enc a) (enc b) = true
  flat : ∀ a, enc a ≠ .none ∧ ∀ xs, enc a ≠ .tuple xs
  shallow : ∀ a, (enc a).depth ≤ 1
def kI : Kd Int where
  key := .inl
  enc := .int
  inj := fun a b h => by cases h; rfl
  le := fun a b => decide (a ≤ b)
  leq := dataLe_int id
  tot := fun a b => by simp only [Bool.or_eq_true, decide_eq_true_eq]; omega
  trn := fun a b c h1 h2 => by simp only [decide_eq_true_eq] at *; omega
  anti := fun a b h1 h2 => by simp only [decide_eq_true_eq] at *; omega
  reads := fun h u a ⟨t, e⟩ => e ▸ .int _ _
  like := fun a b => by first | rfl | simp [alike]
  flat := fun a => And.intro (fun z => by cases z) (fun xs z => by cases z)
  shallow := fun a => by simp [PyData.depth]
def kS : Kd Str where
  key := .inr
  enc := .str
  inj := fun a b h => by cases h; rfl
  le := fun a b => decide (a.cps.toList ≤ b.cps.toList)
  leq := dataLe_str id
  tot := fun a b => by
    simp only [Bool.or_eq_true, decide_eq_true_eq]
    exact List.le_total _ _
  trn := fun a b c h1 h2 => by
    simp only [decide_eq_true_eq] at *
    exact List.le_trans h1 h2
  anti := fun a b h1 h2 => by
    simp only [decide_eq_true_eq] at *
    have := List.le_antisymm h1 h2
    cases a with | mk x => cases b with | mk y => cases x; cases y; simp at this; rw [this]
  reads := fun h u a ⟨t, e⟩ => e ▸ .str _ _
  like := fun a b => by first | rfl | simp [alike]
  flat := fun a => And.intro (fun z => by cases z) (fun xs z => by cases z)
  shallow := fun a => by simp [PyData.depth]
section
variable {α : Type} [BEq α] [LawfulBEq α]
def dedup : List α → List α
  | [] => []
  | x :: xs => if x ∈ dedup xs then dedup xs else x :: dedup xs
theorem mem_dedup {x : α} : ∀ {xs : List α}, x ∈ dedup xs ↔ x ∈ xs
  | [] => Iff.rfl
  | y :: xs => by
    unfold dedup
    split
    · rename_i h
      rw [mem_dedup, List.mem_cons]
      exact ⟨.inr, fun z => z.elim (fun e => e ▸ mem_dedup.mp h) id⟩
    · rw [List.mem_cons, List.mem_cons, mem_dedup]
theorem nodup_dedup : ∀ {xs : List α}, (dedup xs).Nodup
  | [] => List.Pairwise.nil
  | y :: xs => by
    unfold dedup
    split
    · exact nodup_dedup
    · rename_i h
      exact List.nodup_cons.mpr ⟨h, nodup_dedup⟩
theorem length_dedup : ∀ (xs : List α), (dedup xs).length ≤ xs.length
  | [] => Nat.le_refl _
  | y :: xs => by
    have := length_dedup xs
    unfold dedup
    split <;> simp only [List.length_cons] <;> omega
variable (κ : Kd α)
/-- the members once each, ascending -/
def ord (xs : List α) : List α := (dedup xs).mergeSort κ.le
variable {κ}
theorem mem_ord {x : α} {xs : List α} : x ∈ ord κ xs ↔ x ∈ xs := by
  unfold ord
  rw [(List.mergeSort_perm _ _).mem_iff, mem_dedup]
theorem ord_nodup {xs : List α} : (ord κ xs).Nodup := (List.mergeSort_perm _ _).nodup_iff.mpr nodup_dedup
theorem ord_sorted {xs : List α} : (ord κ xs).Pairwise (fun a b => κ.le a b = true) := List.pairwise_mergeSort κ.trn (fun a b => κ.tot a b) _
theorem length_ord {xs : List α} : (ord κ xs).length ≤ xs.length := by
  unfold ord
  rw [List.length_mergeSort]
  exact length_dedup xs
theorem sort_of {ys zs : List α} (hp : ys.Perm zs) : ys.mergeSort κ.le = zs.mergeSort κ.le := by
  refine List.Perm.eq_of_pairwise (le := fun a b => κ.le a b = true) (fun a b _ _ h1 h2 => κ.anti a b h1 h2) (List.pairwise_mergeSort κ.trn (fun a b => κ.tot a b) _) (List.pairwise_mergeSort κ.trn (fun a b => κ.tot a b) _) ?_
  exact ((List.mergeSort_perm _ _).trans hp).trans (List.mergeSort_perm _ _).symm
theorem ord_of {ys xs : List α} (hn : ys.Nodup) (hm : ∀ x, x ∈ ys ↔ x ∈ xs) : ys.mergeSort κ.le = ord κ xs :=
  sort_of ((List.perm_ext_iff_of_nodup hn nodup_dedup).mpr fun a => by rw [hm, mem_dedup])
theorem ord_congr {ys xs : List α} (hm : ∀ x, x ∈ ys ↔ x ∈ xs) : ord κ ys = ord κ xs :=
  ord_of nodup_dedup fun x => by rw [mem_dedup, hm]
/-- a list that is ascending already -/
theorem ord_self {ys xs : List α} (hn : ys.Nodup) (hs : ys.Pairwise (fun a b => κ.le a b = true)) (hm : ∀ x, x ∈ ys ↔ x ∈ xs) : ord κ xs = ys := by
  rw [← ord_of hn hm]
  exact List.mergeSort_of_pairwise hs
theorem sort_self {ys : List α} (hs : ys.Pairwise (fun a b => κ.le a b = true)) : ys.mergeSort κ.le = ys := List.mergeSort_of_pairwise hs
end
theorem perm_unmap {α β : Type} {f : α → β} {l l' : List β} (h : l.Perm l') : ∀ ps : List α, l' = ps.map f → ∃ qs : List α, qs.map f = l ∧ qs.Perm ps := by
  induction h with
  | nil =>
    intro ps e
    cases ps with
    | nil => exact ⟨[], rfl, .refl _⟩
    | cons p ps => cases e
  | cons x h ih =>
    intro ps e
    cases ps with
    | nil => cases e
    | cons p ps =>
      rw [List.map_cons] at e
      injection e with e1 e2
      obtain ⟨qs, q1, q2⟩ := ih ps e2
      exact ⟨p :: qs, by rw [List.map_cons, q1, e1], .cons _ q2⟩
  | swap x y l =>
    intro ps e
    match ps, e with
    | p :: q :: ps, e =>
      rw [List.map_cons, List.map_cons] at e
      injection e with e1 e2
      injection e2 with e2 e3
      exact ⟨q :: p :: ps, by rw [List.map_cons, List.map_cons, e1, e2, e3], .swap _ _ _⟩
  | trans h1 h2 ih1 ih2 =>
    intro ps e
    obtain ⟨qs, q1, q2⟩ := ih2 ps e
    obtain ⟨rs, r1, r2⟩ := ih1 qs q1.symm
    exact ⟨rs, r1, r2.trans q2⟩
theorem keys_back {α : Type} {f : α → Key} : ∀ {l : List Key}, (∀ k ∈ l, ∃ x, f x = k) → ∃ ys : List α, ys.map f = l
  | [], _ => ⟨[], rfl⟩
  | k :: l, h => by
    obtain ⟨x, e⟩ := h k (by simp)
    obtain ⟨ys, q⟩ := keys_back (l := l) fun k hk => h k (by simp [hk])
    exact ⟨x :: ys, by rw [List.map_cons, e, q]⟩
theorem each_of {α : Type} {f : α → Key} : ∀ {ps : List (Key × Value)} {ys : List α}, ys.map f = ps.map Prod.fst → (∀ p ∈ ps, RelV (kV p.1) p.2) → EachIs (fun u x => RelV (kV (f x)) u) (ps.map Prod.snd) ys
  | [], [], _, _ => .nil
  | [], _ :: _, e, _ => by cases e
  | _ :: _, [], e, _ => by cases e
  | p :: ps, y :: ys, e, h => by
    rw [List.map_cons, List.map_cons] at e
    injection e with e1 e2
    exact .cons (by rw [e1]; exact h p (by simp)) (each_of e2 fun q hq => h q (by simp [hq]))
theorem each_kv {α : Type} {f : α → Key} : ∀ {us : List Value} {ys : List α}, EachIs (fun u x => RelV (kV (f x)) u) us ys → Vals (ys.map fun x => kV (f x)) us
  | _, _, .nil => .nil
  | _, _, .cons r t => .cons r (each_kv t)
section
variable {P : Program} {w : World} {A : Around} {E : Value → Shared → Prop} {s : Shared} {α : Type} [BEq α] [LawfulBEq α]
theorem sorted_has {a : Addr} {ps : List (Key × Value)} (κ : Kd α) (xs : List α) {Q : Value → Shared → Prop} (R : Has P w s.heap a ps) (hm : ∀ k, k ∈ ps.map Prod.fst ↔ k ∈ xs.map κ.key) (hh : A.handled = none) (hu : A.units + 50 < cLine)
    (h : ∀ s' p (out : List Value) ep, (∀ b o, s.heap.get? b = some o → s'.heap.get? b = some o) → s'.gens = s.gens → s'.os = s.os → s.heap.objs.size ≤ p → s'.heap.get? p = some (seqObj "list" out.toArray ep) → out.length < scanBound →
      Vals ((ord κ xs).map fun x => kV (κ.key x)) out → Q (.ref p) s') : wpAny (model P w) A (call (.builtin "sorted") [.ref a]) Q E s := by
  obtain ⟨o, es, ep, t, ho, hex, hd, pm, g, nd, hb, hf, hr, hl⟩ := R
  refine call_function_entry_kw kind_sorted plain_sorted entry_sorted (args_sorted1 _) ?_
  unfold Builtin.«sorted»
  refine wpAny_bind (m := checkCount "sorted" 1 1 _) (wpAny_pure ?_)
  refine wpAny_bind (collect_set (A := A.in1) hh ⟨o, ho, hex.1, hd⟩ hf hb hr hl fun s1 vs k1 hz g1 o1 pv => ?_)
  have pv2 : vs.Perm (ps.map Prod.snd) := by
    refine pv.trans ?_
    have := pm.map (·.2)
    rwa [List.map_map] at this
  obtain ⟨qs, rfl, pq⟩ := perm_unmap (f := Prod.snd) pv2 ps rfl
  have gq : ∀ q ∈ qs, RelV (kV q.1) q.2 := fun q hq => is_rel (g q (pq.mem_iff.mp hq)).1
  obtain ⟨ys, hys⟩ := keys_back (f := κ.key) (l := qs.map Prod.fst) fun k hk => by
    have : k ∈ ps.map Prod.fst := (pq.map Prod.fst).mem_iff.mp hk
    obtain ⟨x, _, e⟩ := List.mem_map.mp ((hm k).mp this)
    exact ⟨x, e⟩
  have ey : EachIs (fun u x => RelV (kV (κ.key x)) u) (qs.map Prod.snd) ys := each_of hys gq
  have yn : ys.Nodup := by
    have : (ys.map κ.key).Nodup := by rw [hys]; exact (pq.map Prod.fst).nodup_iff.mpr nd
    exact List.Pairwise.of_map κ.key (fun a b hne e => hne (by rw [e])) this
  have ym : ∀ x, x ∈ ys ↔ x ∈ xs := fun x => by
    have q1 : κ.key x ∈ ys.map κ.key ↔ κ.key x ∈ xs.map κ.key := by
      rw [hys, ← hm]
      exact (pq.map Prod.fst).mem_iff
    have inj : ∀ l : List α, κ.key x ∈ l.map κ.key ↔ x ∈ l := fun l => ⟨fun z => by
      obtain ⟨y, hy, e⟩ := List.mem_map.mp z
      exact κ.inj _ _ e ▸ hy, fun z => List.mem_map.mpr ⟨x, z, rfl⟩⟩
    rw [inj, inj] at q1
    exact q1
  have hlen : (qs.map Prod.snd).length < scanBound := by
    rw [List.length_map, pq.length_eq, ← List.length_map (f := fun p : Key × Value => ((mixKind P w).hash p.1, p.2)), ← pm.length_eq, Array.length_toList]
    exact hb
  have hL : (qs.map Prod.snd).length ≤ sizeLine := fits_of_scanBound hlen
  generalize hvs : qs.map Prod.snd = vs at *
  refine wpAny_bind (wpAny_newList ?_ hL)
  have at1 : (s1.heap.push (seqObj "list" vs.toArray 0)).get? s1.heap.objs.size = some (seqObj "list" vs.toArray 0) := Heap.get?_push_size _ rfl
  have keep : ∀ b o, s.heap.get? b = some o → b ≠ s1.heap.objs.size := fun b o q z => by
    have := Heap.lt_size (k1 b o q)
    rw [z] at this
    exact Nat.lt_irrefl _ this
  have er : ∀ h : Heap, EachIs (fun v b => ∃ as, Reads h v (κ.enc b) as) vs ys := fun h => ey.mono fun u x r => ⟨[], κ.reads h u x r⟩
  have hal : AllAlike (ys.map κ.enc) := fun d hd e he => by
    obtain ⟨x, _, rfl⟩ := List.mem_map.mp hd
    obtain ⟨y, _, rfl⟩ := List.mem_map.mp he
    exact κ.like x y
  have hk : Sortable (ys.map κ.enc) := .inr fun d hd => by
    obtain ⟨x, _, rfl⟩ := List.mem_map.mp hd
    exact κ.flat x
  refine wpAny_bind (wpAny_holding (wpAny_call_entry_kw slot_list_sort ⟨_, at1, rfl⟩ entry_list_sort ?body (args_list_sort _)))
  case body =>
    refine list_sort_vals (κ := dataKind (sortingHeap (s1.heap.push (seqObj "list" vs.toArray 0)) s1.heap.objs.size vs) (ys.map κ.enc)) at1 (SortsAt.data (s := { s1 with heap := sortingHeap (s1.heap.push (seqObj "list" vs.toArray 0)) s1.heap.objs.size vs }) (each_map (R := fun v d => ∃ as, Reads (sortingHeap (s1.heap.push (seqObj "list" vs.toArray 0)) s1.heap.objs.size vs) v d as) κ.enc (er _)) hal hk (bound_map fun b _ => ?_)) hL ⟨_, rfl, wpAny_pure ⟨_, rfl, ?_⟩⟩
    · have := κ.shallow b
      show A.units + 2 + (κ.enc b).depth < cLine
      omega
    · obtain ⟨ep, he⟩ := sortedHeap_at (vs := vs) (out := (sortVals (dataKind (sortingHeap (s1.heap.push (seqObj "list" vs.toArray 0)) s1.heap.objs.size vs) (ys.map κ.enc)) false vs vs).toArray) at1
      refine h _ _ _ ep (fun b o q => ?_) g1 o1 hz he (by rw [sortVals_length false rfl]; exact hlen) ?_
      · have q1 := Heap.get?_push_of_some (seqObj "list" vs.toArray 0) (k1 b o q)
        show (sortedHeap _ _ _ _).get? b = some o
        rw [sortedHeap_old (keep b o q) (Heap.lt_size q1)]
        exact q1
      · have := sortVals_data (h' := sortingHeap (s1.heap.push (seqObj "list" vs.toArray 0)) s1.heap.objs.size vs) false ey (er _) hal
        rw [κ.leq, ord_of yn ym] at this
        exact each_kv this
end
end SetM
namespace SetM
open PySem PySem.Spec PySem.W PySem.Calls PyProof.Rows L2
/-- the set of these keys -/
def SetV (P : Program) (w : World) (a : Addr) (ks : List Key) : HO := .ext fun h => ∃ ps, Has P w h a ps ∧ ∀ k, k ∈ ps.map Prod.fst ↔ k ∈ ks
theorem setV_new {P : Program} {w : World} {H : Hp} {h : Heap} {a : Addr} {ps : List (Key × Value)} {ks : List Key} (R : Has P w h a ps) (m : ∀ k, k ∈ ps.map Prod.fst ↔ k ∈ ks) : ObjOk P w H h a (SetV P w a ks) := by
  have ⟨o, _, _, _, ho, _⟩ := R
  exact ⟨⟨ps, R, m⟩, ⟨o, ho⟩, fun h1 h2 ⟨qs, p, m⟩ k => ⟨qs, p.at k, m⟩⟩
section
variable {X : Cx}
theorem setV_get {pins : List (Addr × Obj)} {σ : L2.St} {H : Hp} {s : Shared} {a : Addr} {ks : List Key} (I : Inv X pins σ H s) (ha : H a = some (SetV X.prog X.w a ks)) : ∃ ps, Has X.prog X.w s.heap a ps ∧ ∀ k, k ∈ ps.map Prod.fst ↔ k ∈ ks := (I.hok a _ ha).1
theorem keysAre_of {P : Program} {w : World} {ks : List Key} {its : List Value} (r : Vals (ks.map kV) its) : KeysAre P w ks its.toArray := by
  have hl := r.length
  rw [List.length_map] at hl
  refine ⟨by rw [List.size_toArray, hl], fun i v hv => ?_⟩
  rw [List.getElem?_toArray] at hv
  obtain ⟨hi, _⟩ := List.getElem?_eq_some_iff.mp hv
  have hk : ks[i]? = some ks[i] := List.getElem?_eq_getElem (by omega)
  obtain ⟨u, h1, h2⟩ := Vals.get (i := i) (x := kV ks[i]) r (by rw [List.getElem?_map, hk]; rfl)
  rw [hv] at h1
  cases h1
  exact ⟨_, hk, kV_is h2⟩
def rSetV (K : PySem.W.Frag) (P : Program) (w : World) : List V → Hp → VK → Prop := fun vs H Q => ∃ (l : Addr) (ks : List Key), vs = [V.ref l] ∧ (SqL K H l (ks.map kV) ∨ SqT K H l (ks.map kV)) ∧ ks.length + 1 < scanBound ∧ ∀ p, H p = none → Q (.ref p) (upd H p (SetV P w p ks))
theorem cr_setV (hc : X.calm = true) : CallR X (.type "set") (rSetV X.K X.prog X.w) := by
  intro pins s σ H vs us Q I r h
  obtain ⟨l, ks, rfl, hs, hb, q⟩ := h
  rw [Vals.ref1 r]
  have fin : ∀ (h' : Heap) (tk : Nat) (ps : List (Key × Value)), Has X.prog X.w h' s.heap.objs.size ps → ps.length ≤ ks.length → (∀ k, k ∈ ps.map Prod.fst ↔ k ∈ ks) → (∀ b o, s.heap.get? b = some o → h'.get? b = some o) → EP X pins σ Q (.ref s.heap.objs.size) { s with heap := h', toks := tk } :=
    fun h' tk ps hh _ m k => ⟨.ref _, upd H s.heap.objs.size (SetV X.prog X.w s.heap.objs.size ks), I.laid k (Nat.le_refl _) (setV_new hh m), rfl, q _ (I.hok.fresh (Nat.le_refl _))⟩
  rcases hs with hs | hs
  · obtain ⟨its, rv, ⟨o, n, ho, hcl, _, hd⟩, hz⟩ := I.list hs
    exact call_set_of (Src.list l its.toArray) ks (I.ok.hd hc) ⟨o, ho, hcl, n, hd⟩ (keysAre_of rv) hb fin
  · obtain ⟨its, rv, ⟨o, ho, hcl, n, hd⟩, hz⟩ := I.tuple hs
    exact call_set_of (Src.tuple l its.toArray) ks (I.ok.hd hc) ⟨o, ho, hcl, n, hd⟩ (keysAre_of rv) hb fin
def rSortV (P : Program) (w : World) {α : Type} [BEq α] [LawfulBEq α] (κ : Kd α) : List V → Hp → VK → Prop := fun vs H Q => ∃ (a : Addr) (xs : List α), vs = [V.ref a] ∧ H a = some (SetV P w a (xs.map κ.key)) ∧ ∀ p, H p = none → Q (.ref p) (upd H p (.lst ((ord κ xs).map fun x => kV (κ.key x))))
theorem cr_sortV (hc : X.calm = true) (hu : X.A.units + 100 < cLine) {α : Type} [BEq α] [LawfulBEq α] (κ : Kd α) : CallR X (.builtin "sorted") (rSortV X.prog X.w κ) := by
  intro pins s σ H vs us Q I r h
  obtain ⟨a, xs, rfl, ha, q⟩ := h
  obtain ⟨ps, R, m⟩ := setV_get I ha
  rw [Vals.ref1 r]
  refine sorted_has κ xs R m (I.ok.hd hc) (by omega) fun s' p out ep k g o hp hg hlt hv => ?_
  have hlen : ((ord κ xs).map fun x => kV (κ.key x)).length ≤ sizeLine := by rw [hv.length]; exact fits_of_scanBound hlt
  have hn : H p = none := I.hok.fresh hp
  have J : Inv X pins σ (upd H p (.lst ((ord κ xs).map fun x => kV (κ.key x)))) { s with heap := s'.heap, gens := s'.gens, drawn := s'.drawn, toks := s'.toks } :=
    I.call (ch := []) (Un.laid k hp hn) (I.hok.laid k hp ⟨hlen, out, ep, hv, hg⟩) (by rw [g]; exact I.bare) (fun _ z => nomatch z)
  have e : s' = { s with heap := s'.heap, gens := s'.gens, drawn := s'.drawn, toks := s'.toks } := by
    cases s'
    cases s
    cases o
    rfl
  rw [e]
  exact ⟨.ref p, _, J, rfl, q p hn⟩
end
end SetM
namespace Dn
open PySem PySem.Spec PySem.W PyProof.Rows L2 SetM
section
variable {T : Tb} {X : Cx} {W : WX}
def keyD : D → Option Key
  | .int i => some (.inl i)
  | .str x => some (.inr x)
  | _ => none
def keysD : List D → Option (List Key)
  | [] => some []
  | d :: ds => (keyD d).bind fun k => (keysD ds).map (k :: ·)
def strsD : List D → Option (List Str)
  | [] => some []
  | .str i :: ds => (strsD ds).map (i :: ·)
  | _ :: _ => none
theorem strsD_eq : ∀ {ds : List D} {ns : List Str}, strsD ds = some ns → ds = ns.map .str
  | [], ns, h => by cases h; rfl
  | .str i :: ds, ns, h => by
    have h : (strsD ds).map (i :: ·) = some ns := h
    cases e : strsD ds with
    | none => rw [e] at h; cases h
    | some ms => rw [e] at h; cases h; rw [List.map_cons, ← strsD_eq e]
theorem strsD_map : ∀ ns : List Str, strsD (ns.map .str) = some ns
  | [] => rfl
  | n :: ns => by
    show (strsD (ns.map .str)).map (n :: ·) = some (n :: ns)
    rw [strsD_map ns]
    rfl
theorem keysD_ints : ∀ ns : List Int, keysD (ns.map .int) = some (ns.map .inl)
  | [] => rfl
  | n :: ns => by
    show ((keysD (ns.map .int)).map (Sum.inl n :: ·)) = _
    rw [keysD_ints ns]
    rfl
theorem keysD_strs : ∀ ns : List Str, keysD (ns.map .str) = some (ns.map .inr)
  | [] => rfl
  | n :: ns => by
    show ((keysD (ns.map .str)).map (Sum.inr n :: ·)) = _
    rw [keysD_strs ns]
    rfl
theorem keysD_den {C : Ct} {F : Hp} {am : List Addr} : ∀ {ds : List D} {vs : List V} {ks : List Key}, DenL C F am vs ds → keysD ds = some ks → vs = ks.map kV
  | _, _, _, .nil, h => by cases h; rfl
  | d :: ds, _, ks, .cons r t, h => by
    cases d with
    | int i =>
      have h : (keysD ds).map (Sum.inl i :: ·) = some ks := h
      cases e : keysD ds with
      | none => rw [e] at h; cases h
      | some ms => rw [e] at h; cases h; cases r; rw [keysD_den t e]; rfl
    | str i =>
      have h : (keysD ds).map (Sum.inr i :: ·) = some ks := h
      cases e : keysD ds with
      | none => rw [e] at h; cases h
      | some ms => rw [e] at h; cases h; cases r; rw [keysD_den t e]; rfl
    | _ => cases h
/-- what stands for a set -/
def rSt (X : Cx) : RR (List D) := fun g _ v ds => ∃ p ks, v = .ref p ∧ keysD ds = some ks ∧ g.F p = some (SetV X.prog X.w p ks)
def oSetOf (a : Bool × List D) (_ : S) : Option (List D) := match keysD a.2 with
  | some ks => if ks.length + 1 < scanBound then some a.2 else none
  | none => none
theorem cd_set (hc : X.calm = true) : CallD T X (rQ (ct T X)) (rSt X) (.type "set") oSetOf :=
  ⟨_, cr_setV hc, fun g s H x a c Q sr ra e h => by
    unfold oSetOf at e
    split at e
    · rename_i ks ek
      obtain ⟨z, rfl⟩ := iteS e
      obtain ⟨p, vs, rfl, l, q⟩ := ra.at sr.sub
      rw [keysD_den l ek] at q
      refine ⟨p, ks, rfl, ?_, z, fun p np => h _ _ _ (step_new sr np) (sr_new sr np) ⟨p, ks, rfl, ek, upd_same⟩⟩
      rcases q with ⟨_, q⟩ | ⟨_, q⟩
      · exact .inr q
      · exact .inl (.inl (.inl q))
    · cases e⟩
def ordD (ds : List D) : Option (List D) := match intsD ds with
  | some ns => some ((ord kI ns).map .int)
  | none => (strsD ds).map fun xs => (ord kS xs).map .str
def oSortSet (ds : List D) (_ : S) : Option (List D) := ordD ds
theorem denL_strs {C : Ct} {F : Hp} {am : List Addr} : ∀ ns : List Str, DenL C F am (ns.map V.str) (ns.map .str)
  | [] => .nil
  | n :: ns => .cons (.str n) (denL_strs ns)
theorem cd_sortSet {Rr : RR (List D)} (N : NewL (ct T X) Rr) (hc : X.calm = true) (hu : X.A.units + 150 < cLine) : CallD T X (rSt X) Rr (.builtin "sorted") oSortSet :=
  ⟨_, CallR.or (cr_sortV hc (by omega) kI) (cr_sortV hc (by omega) kS), fun g s H x a c Q sr ra e h => by
    unfold oSortSet ordD at e
    obtain ⟨p, ks, rfl, ek, hp⟩ := ra
    cases ei : intsD a with
    | some ns =>
      rw [ei] at e
      cases e
      rw [intsD_eq ei, keysD_ints] at ek
      cases ek
      exact .inl ⟨p, ns, rfl, sr.sub _ _ hp, fun p np => N.new h sr (DenL.ofInts _) np⟩
    | none =>
      rw [ei] at e
      cases es : strsD a with
      | some xs =>
        rw [es] at e
        cases e
        rw [strsD_eq es, keysD_strs] at ek
        cases ek
        exact .inr ⟨p, xs, rfl, sr.sub _ _ hp, fun p np => N.new h sr (denL_strs _) np⟩
      | none => rw [es] at e; cases e⟩
end
end Dn

set_option Elab.async false
set_option linter.all false
set_option maxRecDepth 100000
set_option maxHeartbeats 4000000
/-! zip of two things, enumerate of one: lists, tuples, texts in any mix -/
namespace L2
open PySem PySem.Spec PyProof.Rows
inductive Sr where
  | lst (a : Addr)
  | tup (a : Addr)
  | txt (x : Str)
namespace Sr
def v : Sr → V
  | .lst a => .ref a
  | .tup a => .ref a
  | .txt x => .str x
def rest : Sr → List Addr
  | .lst a => [a]
  | .tup a => [a]
  | .txt _ => []
def at_ (K : PySem.W.Frag) (H : Hp) : Sr → List V → Prop
  | .lst a, xs => SqL K H a xs
  | .tup a, xs => SqT K H a xs
  | .txt x, xs => xs = x.cps.toList.map fun c => .str ⟨#[c]⟩
def itr (it : Addr) (i : Nat) (h : Heap) : Sr → Prop
  | .lst a => h.IsListIter it a i
  | .tup a => h.IsTupleIter it a i
  | .txt x => ∃ t, h.IsStrIter it (strIterType x) x t i
theorem itr_at {it : Addr} {i : Nat} {h h' : Heap} (k : ∀ o, h.get? it = some o → h'.get? it = some o) : ∀ {s : Sr}, s.itr it i h → s.itr it i h'
  | .lst a, x => Heap.IsListIter.at x k
  | .tup a, x => Heap.IsTupleIter.at x k
  | .txt x, ⟨t, o, ho, r⟩ => ⟨t, o, k o ho, r⟩
theorem itr_ob {it : Addr} {i : Nat} {h : Heap} : ∀ {s : Sr}, s.itr it i h → ∃ o, h.get? it = some o ∧ ∀ v, o.data ≠ .cell v
  | .lst a, ⟨o, e, _, d⟩ => ⟨o, e, fun v q => by rw [d] at q; cases q⟩
  | .tup a, ⟨o, e, _, d⟩ => ⟨o, e, fun v q => by rw [d] at q; cases q⟩
  | .txt x, ⟨t, o, e, _, d⟩ => ⟨o, e, fun v q => by rw [d] at q; cases q⟩
end Sr
section
variable {X : Cx} {pins : List (Addr × Obj)} {σ : St} {H : Hp} {s : Shared}
theorem Inv.sr_inj (I : Inv X pins σ H s) : ∀ {r : Sr} {xs ys : List V}, r.at_ X.K H xs → r.at_ X.K H ys → xs = ys
  | .lst a, _, _, h, h' => I.list_inj h h'
  | .tup a, _, _, h, h' => I.tuple_inj h h'
  | .txt x, _, _, h, h' => h.trans h'.symm
theorem Inv.sr_lt (I : Inv X pins σ H s) : ∀ {r : Sr} {xs : List V}, r.at_ X.K H xs → ∀ b ∈ r.rest, b < s.heap.objs.size
  | .lst a, _, h, b, hb => by
    obtain ⟨its, _, p, _⟩ := I.list h
    rw [List.mem_singleton.mp hb]; exact p.lt
  | .tup a, _, h, b, hb => by
    obtain ⟨its, _, ⟨o, e, _⟩, _⟩ := I.tuple h
    rw [List.mem_singleton.mp hb]; exact Heap.lt_size e
  | .txt x, _, _, b, hb => by cases hb
/-- the next of a source -/
theorem sr_draws (hc : X.calm = true) (I : Inv X pins σ H s) : ∀ {r : Sr} {xs : List V} {it : Addr} {i : Nat}, r.at_ X.K H xs → r.itr it i s.heap → (∀ b ∈ r.rest, b ≠ it) →
    ∃ (n : Nat) (Pv : Nat → Value → Prop) (Sv : Nat → Heap → Prop), Draws X.prog X.w X.A.in1 it (it :: r.rest) n Pv Sv ∧ n = xs.length ∧ Sv i s.heap ∧ (∀ j h, Sv j h → r.itr it j h) ∧ ∀ j u, Pv j u → ∃ x, xs[j]? = some x ∧ RelV x u
  | .lst a, xs, it, i, h, hi, hne => by
    obtain ⟨its, rv, p, _⟩ := I.list h
    have hh : X.A.in1.handled = none := I.ok.hd hc
    refine ⟨its.toArray.size, _, _, (Draws.list hh it a (hne a (by simp [Sr.rest])) its.toArray : Draws X.prog X.w X.A.in1 it [it, a] its.toArray.size (fun i v => its.toArray[i]? = some v) (fun i h => h.IsListIter it a i ∧ h.IsList a its.toArray)), by rw [List.size_toArray, rv.length], ⟨hi, p.isList⟩, fun j h x => x.1, fun j u q => ?_⟩
    exact vals_at rv (by simpa using q)
  | .tup a, xs, it, i, h, hi, hne => by
    obtain ⟨its, rv, p, _⟩ := I.tuple h
    have hh : X.A.in1.handled = none := I.ok.hd hc
    refine ⟨its.toArray.size, _, _, (Draws.tuple hh it a (hne a (by simp [Sr.rest])) its.toArray : Draws X.prog X.w X.A.in1 it [it, a] its.toArray.size (fun i v => its.toArray[i]? = some v) (fun i h => h.IsTupleIter it a i ∧ h.IsTuple a its.toArray)), by rw [List.size_toArray, rv.length], ⟨hi, (show s.heap.IsTuple a its.toArray from p)⟩, fun j h x => x.1, fun j u q => ?_⟩
    exact vals_at rv (by simpa using q)
  | .txt x, xs, it, i, h, ⟨t, hi⟩, hne => by
    have h : xs = x.cps.toList.map fun c => V.str ⟨#[c]⟩ := h
    subst h
    have hh : X.A.in1.handled = none := I.ok.hd hc
    refine ⟨x.cps.size, _, _, (Draws.text hh it x t : Draws X.prog X.w X.A.in1 it [it] x.cps.size (fun i v => ∃ c u, x.cps[i]? = some c ∧ v = .str ⟨#[c]⟩ u) (fun i h => h.IsStrIter it (strIterType x) x t i)), by simp, hi, fun j h y => ⟨t, y⟩, fun j u ⟨c, tk, hcx, e⟩ => ⟨.str ⟨#[c]⟩, ?_, ⟨tk, e⟩⟩⟩
    rw [List.getElem?_map, Array.getElem?_toList, hcx]
    rfl
/-- how it begins -/
theorem sr_begins (I : Inv X pins σ H s) : ∀ {r : Sr} {xs : List V} {u : Value}, r.at_ X.K H xs → RelV r.v u → ∃ (o : Obj) (Hh : Heap → Prop), Begins u o Hh ∧ Hh s.heap ∧ ∀ (h : Heap) (it : Addr), h.get? it = some o → r.itr it 0 h
  | .lst a, xs, u, h, e => by
    have e : u = .ref a := e
    subst e
    obtain ⟨its, rv, p, _⟩ := I.list h
    exact ⟨_, _, begins_list a its.toArray, p.isList, fun h it e => ⟨_, e, rfl, rfl⟩⟩
  | .tup a, xs, u, h, e => by
    have e : u = .ref a := e
    subst e
    obtain ⟨its, rv, p, _⟩ := I.tuple h
    exact ⟨_, _, begins_tuple a its.toArray, p, fun h it e => ⟨_, e, rfl, rfl⟩⟩
  | .txt x, xs, u, h, e => by
    obtain ⟨t, rfl⟩ := e
    exact ⟨_, _, begins_text x t, trivial, fun h it e => ⟨t, _, e, rfl, rfl⟩⟩
end
/-! ### zip -/
def ItzS (K : PySem.W.Frag) (r1 r2 : Sr) (n : Nat) : It :=
  ⟨fun i H => ∃ (xs ys : List V) (x y : V), r1.at_ K H xs ∧ r2.at_ K H ys ∧ xs[i]? = some x ∧ ys[i]? = some y ∧ i < n,
    fun i H v H' => ∃ T x y, v = .ref T ∧ H T = none ∧ H' = upd H T (.tup [x, y]) ∧ (∀ xs, r1.at_ K H xs → xs[i]? = some x) ∧ ∀ ys, r2.at_ K H ys → ys[i]? = some y,
    fun i H => ∃ xs ys : List V, r1.at_ K H xs ∧ r2.at_ K H ys ∧ n = min xs.length ys.length ∧ n ≤ i⟩
theorem turn_zipS {P : Program} {w : World} {K : PySem.W.Frag} {elts : List Expr} {kk : Nat} {tpos : Pos} {r1 r2 : Sr} {N n : Nat} (l1 : ∀ b ∈ r1.rest, b < N) (l2 : ∀ b ∈ r2.rest, b < N) :
    Turn P w K (.Tuple elts kk tpos) (ItzS K r1 r2 n) [N + 4, N + 2, N + 3, N, N + 1] (N + 4) (fun i h => IsZip h (N + 4) (N + 2) (N + 3) .none ∧ IsTupOf2 h (N + 2) (.ref N) (.ref (N + 1)) ∧ (∃ x y, IsTupOf2 h (N + 3) x y) ∧ r1.itr N i h ∧ r2.itr (N + 1) i h ∧ i ≤ n) where
  mem := by simp
  obj := fun i h st c hc => by
    obtain ⟨hz, hTI, ⟨x, y, hTO⟩, h1, h2, _⟩ := st
    have e' : c = N + 4 ∨ c = N + 2 ∨ c = N + 3 ∨ c = N ∨ c = N + 1 := by simpa using hc
    rcases e' with q | q | q | q | q
    · rw [q]; exact ⟨_, hz, fun v q => nomatch q⟩
    · rw [q]; exact ⟨_, hTI, fun v q => nomatch q⟩
    · rw [q]; exact ⟨_, hTO, fun v q => nomatch q⟩
    · rw [q]; exact Sr.itr_ob h1
    · rw [q]; exact Sr.itr_ob h2
  keep := fun i h h' st k => by
    obtain ⟨hz, hTI, ⟨x, y, hTO⟩, h1, h2, hn⟩ := st
    exact ⟨k _ (by simp) _ hz, k _ (by simp) _ hTI, ⟨x, y, k _ (by simp) _ hTO⟩, Sr.itr_at (fun o q => k N (by simp) o q) h1, Sr.itr_at (fun o q => k (N + 1) (by simp) o q) h2, hn⟩
  item := by
    intro X hP hw hK hc i pins s σ H E I hf st hg
    subst hP hw hK
    obtain ⟨hz, hTI, ⟨x0, y0, hTO⟩, h1, h2, hn⟩ := st
    obtain ⟨xs, ys, x, y, hqx, hqy, hx, hy, hin⟩ := hg
    obtain ⟨n1, P1, S1, D1, e1, s1, k1, v1⟩ := sr_draws hc I hqx h1 (fun b hb => Nat.ne_of_lt (l1 b hb))
    obtain ⟨n2, P2, S2, D2, e2, s2, k2, v2⟩ := sr_draws hc I hqy h2 (fun b hb => Nat.ne_of_lt (Nat.lt_succ_of_lt (l2 b hb)))
    have i1 : i < n1 := by rw [e1]; exact (List.getElem?_eq_some_iff.mp hx).1
    have i2 : i < n2 := by rw [e2]; exact (List.getElem?_eq_some_iff.mp hy).1
    have Z := zip_sep2 (N := N) l1 l2
    have hzl : N + 4 < s.heap.objs.size := Heap.lt_size hz
    refine wpAny_pyNext_zipD2_item Z D1 D2 hz hTI hTO s1 s2 i1 i2 fun u u2 h' tk p1 p2 z' TO' h1' h2' hT hsz hk => ?_
    obtain ⟨x', hx', ru⟩ := v1 _ _ p1
    obtain ⟨y', hy', ru2⟩ := v2 _ _ p2
    rw [hx] at hx'; cases hx'
    rw [hy] at hy'; cases hy'
    refine ⟨_, rfl, wpAny_letOwnedTupleGo_zip (s := { s with heap := h', toks := tk }) z' fun h'' z'' sb => ?_⟩
    have hT2 : h''.get? s.heap.objs.size = some { cls := .type "tuple", data := .seq #[u, u2] } := (sb.2 _ (Nat.ne_of_gt hzl)).trans hT
    have new : ObjOk X.prog X.w (upd H s.heap.objs.size (.tup [x, y])) h'' s.heap.objs.size (.tup [x, y]) :=
      ⟨by show 2 ≤ sizeLine; decide, [u, u2], .cons ru (.cons ru2 .nil), ⟨_, hT2, rfl, _, rfl⟩⟩
    have I1 : Inv X pins σ (upd H s.heap.objs.size (.tup [x, y])) { s with heap := h'', toks := tk } :=
      I.turnedNew (t' := tk) (ch := [N + 4, N + 2, N + 3, N, N + 1]) (fun c o hb q => (sb.2 c (fun q' => hb (by simp [q']))).trans (hk c o (fun q' => hb (by simp [q'])) (fun q' => hb (by simp [q'])) (fun q' => hb (by simp [q'])) (fun q' => hb (by simp [q'])) q)) hf (Nat.le_refl _) new
    refine ⟨.ref s.heap.objs.size, _, I1, rfl, ⟨_, x, y, rfl, I.hok.fresh (Nat.le_refl _), rfl, fun l hl => by rw [I.sr_inj hl hqx]; exact hx, fun l hl => by rw [I.sr_inj hl hqy]; exact hy⟩, ⟨z'', ?_, ⟨u, u2, ?_⟩, ?_, ?_, hin⟩, fun c hcm => ?_⟩
    · exact (sb.2 _ Z.TIz).trans (hk _ _ Z.TIz Z.TITO Z.TIi1 Z.TIi2 hTI)
    · exact (sb.2 _ Z.TOz).trans TO'
    · exact Sr.itr_at (fun o q => (sb.2 _ Z.zi1.symm).trans q) (k1 _ _ h1')
    · exact Sr.itr_at (fun o q => (sb.2 _ Z.zi2.symm).trans q) (k2 _ _ h2')
    · have hlt : c < s.heap.objs.size := by
        have e' : c = N + 4 ∨ c = N + 2 ∨ c = N + 3 ∨ c = N ∨ c = N + 1 := by simpa using hcm
        have hzl' : (N + 4 : Nat) < s.heap.objs.size := hzl
        rcases e' with q | q | q | q | q <;> rw [q]
        · exact hzl
        · exact Nat.lt_of_le_of_lt (by omega) hzl'
        · exact Nat.lt_of_le_of_lt (by omega) hzl'
        · exact Nat.lt_of_le_of_lt (by omega) hzl'
        · exact Nat.lt_of_le_of_lt (by omega) hzl'
      rw [upd_ne (Nat.ne_of_lt hlt)]
      exact (hf c hcm).1
  done := by
    intro X hP hw hK hc i pins s σ H E I hf st hg
    subst hP hw hK
    obtain ⟨hz, hTI, ⟨x0, y0, hTO⟩, h1, h2, hn⟩ := st
    obtain ⟨xs, ys, hqx, hqy, en, hin⟩ := hg
    obtain ⟨n1, P1, S1, D1, e1, s1, k1, v1⟩ := sr_draws hc I hqx h1 (fun b hb => Nat.ne_of_lt (l1 b hb))
    obtain ⟨n2, P2, S2, D2, e2, s2, k2, v2⟩ := sr_draws hc I hqy h2 (fun b hb => Nat.ne_of_lt (Nat.lt_succ_of_lt (l2 b hb)))
    have Z := zip_sep2 (N := N) l1 l2
    exact wpAny_pyNext_zipD2_end Z D1 D2 hz hTI hTO s1 s2 (by omega) (by omega) (by omega) fun h' tk hk => ⟨rfl, I.turnedL (t' := tk) (ch := [N + 4, N + 2, N + 3, N, N + 1]) (fun c o hb q =>
      hk c o (fun q' => hb (by simp [q'])) (fun q' => hb (by simp [q'])) (fun q' => hb (by simp [q'])) (fun q' => hb (by simp [q'])) q) hf⟩
  self := fun A i s Q E st h => wpAny_pyIter_zip st.1 h
def iZipS (K : PySem.W.Frag) (ta : TA) : TI := fun σ H R => ta σ H fun vs H1 => ∃ r1 r2 xs ys, vs = [Sr.v r1, Sr.v r2] ∧ r1.at_ K H1 xs ∧ r2.at_ K H1 ys ∧ R (ItzS K r1 r2 (min xs.length ys.length)) H1
theorem pi_zipS {X : Cx} {e e2 : Expr} {ta : TA} {p pos tpos : Pos} {elts : List Expr} {kk : Nat} (hg : Gl X "zip") (hm : X.mg "zip" = none) (ha : PA X [e, e2] ta)
    (hs : starEach [e, e2] X.env = (false, eval e X.env) :: starEach [e2] X.env := by rfl) (hpl : (backTo pos (starEach [e2] X.env)).any (·.1) = false := by rfl) :
    PI X (.Tuple elts kk tpos) (.Call (.Name "zip" p) [e, e2] [] pos) (iZipS X.K ta) := by
  refine ⟨fun pins s σ H R I h => ?_⟩
  refine Call_ (ld_blt I hg hm PyProof.Rows.boot_zip (PyProof.Rows.callWith_type1 (thn (ha.run pos pins s σ H _ I h) fun us s1 ⟨vs, H1, I1, r1, q1⟩ => ?_) hs hpl))
  obtain ⟨a, b, xs, ys, ex, hqx, hqy, q⟩ := q1
  subst ex
  cases r1 with
  | cons r rr =>
    cases rr with
    | cons r' rr =>
      cases rr
      obtain ⟨o1, H1', B1, b1, c1⟩ := sr_begins I1 hqx r
      obtain ⟨o2, H2', B2, b2, c2⟩ := sr_begins I1 hqy r'
      refine zip_begins2 B1 B2 b1 b2 fun h' hz hTI hTO h1 h2 hsz hk => wpAny_pyIter_zip hz ?_
      have I2 : Inv X pins σ H1 { s1 with heap := h' } := I1.kept (t' := s1.toks) hk
      refine ⟨s1.heap.objs.size + 4, [s1.heap.objs.size + 4, s1.heap.objs.size + 2, s1.heap.objs.size + 3, s1.heap.objs.size, s1.heap.objs.size + 1], _, _, H1, rfl, I2, turn_zipS (I1.sr_lt hqx) (I1.sr_lt hqy), ⟨hz, hTI, ⟨_, _, hTO⟩, c1 _ _ h1, c2 _ _ h2, Nat.zero_le _⟩, fun c hcm => ?_, q⟩
      have e' : c = s1.heap.objs.size + 4 ∨ c = s1.heap.objs.size + 2 ∨ c = s1.heap.objs.size + 3 ∨ c = s1.heap.objs.size ∨ c = s1.heap.objs.size + 1 := by simpa using hcm
      have hle : s1.heap.objs.size ≤ c := by
        rcases e' with z | z | z | z | z
        · rw [z]; exact Nat.le_add_right _ _
        · rw [z]; exact Nat.le_add_right _ _
        · rw [z]; exact Nat.le_add_right _ _
        · rw [z]; exact Nat.le_refl _
        · rw [z]; exact Nat.le_add_right _ _
      exact I1.fpOk hle (I1.hok.fresh hle)
end L2
namespace PySem
theorem meets_enumerate_new1 {v : Value} {o : Obj} {H : Heap → Prop} (B : Begins v o H) :
    Meets (Builtin.«enumerate.__new__» ⟨[.type "enumerate", v], []⟩) (fun _ R s => H s.heap ∧
      R (.ok (.ret (.ref (s.heap.push o).objs.size))) { s with heap := (s.heap.push o).push { cls := .type "enumerate", data := .fields #[.none, .bool false, .ref s.heap.objs.size, rawInt 0, .none, .none] } }) :=
  .of_wp fun prog w A R s h => by
    obtain ⟨hp, g, d, tk, os⟩ := s; obtain ⟨h1, h⟩ := h
    have hsub := sub_enumerate
    have q1 : ∀ {A' : Around} {E : Value → Shared → Prop} {Q : Value → Shared → Prop}, Q (.ref hp.objs.size) ⟨hp.push o, g, d, tk, os⟩ → wpAny (model prog w) A' (pyIter v) Q E ⟨hp, g, d, tk, os⟩ :=
      fun q => B.iter prog w _ _ ⟨hp, g, d, tk, os⟩ _ h1 q
    wp_walk using q1
    refine wpAny_stack_any fun st => wpAny_pure ?_
    split
    · rename_i c _ _ _ _ _
      cases (c == Value.type "enumerate")
      · wp_walk using q1
        exact ⟨_, rfl, h⟩
      · wp_walk using q1
        exact ⟨_, rfl, h⟩
    · wp_walk using q1
      exact ⟨_, rfl, h⟩
theorem enum_begins1 {prog : Program} {w : World} {A : Around} {E : Value → Shared → Prop} {s : Shared} {v : Value} {o : Obj} {H : Heap → Prop} {Q : Value → Shared → Prop} (B : Begins v o H) (h1 : H s.heap)
    (h : ∀ h', IsEnum h' (s.heap.objs.size + 1) s.heap.objs.size 0 .none → h'.get? s.heap.objs.size = some o → h'.objs.size = s.heap.objs.size + 2 →
      (∀ b o, s.heap.get? b = some o → h'.get? b = some o) → Q (.ref (s.heap.objs.size + 1)) { s with heap := h' }) :
    wpAny (model prog w) A (call (.type "enumerate") [v]) Q E s := by
  refine callType_new F.called_enumerate (by decide) (F.typeCall_enumerate_1 _) (F.newCall_enumerate_1 _) (fun obj => F.args_object_init_2 obj _) F.entry_enumerate_new
    (meets_enumerate_new1 B) ⟨h1, ?_⟩
  have hz : (s.heap.push o).objs.size = s.heap.objs.size + 1 := Heap.size_push ..
  show _ ∧ _
  rw [hz]
  have he : IsEnum ((s.heap.push o).push { cls := .type "enumerate", data := .fields #[.none, .bool false, .ref s.heap.objs.size, rawInt 0, .none, .none] }) (s.heap.objs.size + 1) s.heap.objs.size 0 .none := by
    have := Heap.get?_push_size (s.heap.push o) (o := { cls := .type "enumerate", data := .fields #[.none, .bool false, .ref s.heap.objs.size, rawInt 0, .none, .none] }) rfl
    rw [hz] at this; exact this
  refine ⟨⟨_, he, rfl⟩, h _ he (Heap.get?_push_of_some _ (Heap.get?_push_size _ B.free)) (by rw [Heap.size_push, hz]) fun b o x => Heap.get?_push_of_some _ (Heap.get?_push_of_some _ x)⟩
end PySem
namespace L2
open PySem PySem.Spec PyProof.Rows
/-! ### enumerate -/
def IteS (K : PySem.W.Frag) (r : Sr) (n : Nat) : It :=
  ⟨fun i H => ∃ (xs : List V) (x : V), r.at_ K H xs ∧ xs[i]? = some x ∧ i < n,
    fun i H v H' => ∃ T x, v = .ref T ∧ H T = none ∧ H' = upd H T (.tup [.int (i : Nat), x]) ∧ ∀ xs, r.at_ K H xs → xs[i]? = some x,
    fun i H => ∃ xs : List V, r.at_ K H xs ∧ n = xs.length ∧ n ≤ i⟩
theorem turn_enumS {P : Program} {w : World} {K : PySem.W.Frag} {elts : List Expr} {kk : Nat} {tpos : Pos} {r : Sr} {N n : Nat} (l1 : ∀ b ∈ r.rest, b < N) :
    Turn P w K (.Tuple elts kk tpos) (IteS K r n) [N + 1, N] (N + 1) (fun i h => (∃ old, IsEnum h (N + 1) N (i : Nat) old) ∧ r.itr N i h ∧ i ≤ n) where
  mem := by simp
  obj := fun i h st c hc => by
    obtain ⟨⟨old, he⟩, h1, _⟩ := st
    have e' : c = N + 1 ∨ c = N := by simpa using hc
    rcases e' with q | q
    · rw [q]; exact ⟨_, he, fun v q => nomatch q⟩
    · rw [q]; exact Sr.itr_ob h1
  keep := fun i h h' st k => by
    obtain ⟨⟨old, he⟩, h1, hn⟩ := st
    exact ⟨⟨old, k _ (by simp) _ he⟩, Sr.itr_at (fun o q => k N (by simp) o q) h1, hn⟩
  item := by
    intro X hP hw hK hc i pins s σ H E I hf st hg
    subst hP hw hK
    obtain ⟨⟨old, he⟩, h1, hn⟩ := st
    obtain ⟨xs, x, hqx, hx, hin⟩ := hg
    obtain ⟨n1, P1, S1, D1, e1, s1, k1, v1⟩ := sr_draws hc I hqx h1 (fun b hb => Nat.ne_of_lt (l1 b hb))
    have i1 : i < n1 := by rw [e1]; exact (List.getElem?_eq_some_iff.mp hx).1
    have hel : N + 1 < s.heap.objs.size := Heap.lt_size he
    have hnf : N + 1 ∉ N :: r.rest := fun hm => by
      rcases List.mem_cons.mp hm with z | z
      · exact absurd z (show (N + 1 : Nat) ≠ N by omega)
      · have q : (N + 1 : Nat) < N := l1 _ z
        omega
    have hne : (N + 1 : Addr) ≠ N := show (N + 1 : Nat) ≠ N by omega
    refine wpAny_pyNext_enum_itemC D1 he s1 i1 hne hnf fun u h' tk p1 ho h1' hT hsz hk => ?_
    obtain ⟨x', hx', ru⟩ := v1 _ _ p1
    rw [hx] at hx'; cases hx'
    refine ⟨_, rfl, wpAny_letOwnedTupleGo_enum (s := { s with heap := h', toks := tk + 1 }) ho fun h'' he' sb => ?_⟩
    have hT2 : h''.get? s.heap.objs.size = some { cls := .type "tuple", data := .seq #[.int i tk, u] } := (sb.2 _ (Nat.ne_of_gt hel)).trans hT
    have new : ObjOk X.prog X.w (upd H s.heap.objs.size (.tup [.int (i : Nat), x])) h'' s.heap.objs.size (.tup [.int (i : Nat), x]) :=
      ⟨by show 2 ≤ sizeLine; decide, [.int i tk, u], .cons ⟨_, rfl⟩ (.cons ru .nil), ⟨_, hT2, rfl, _, rfl⟩⟩
    have I1 : Inv X pins σ (upd H s.heap.objs.size (.tup [.int (i : Nat), x])) { s with heap := h'', toks := tk + 1 } :=
      I.turnedNew (ch := [N + 1, N]) (fun b ob hb q => (sb.2 b (fun z => hb (by simp [z]))).trans (hk b ob (fun z => hb (by simp [z])) (fun z => hb (by simp [z])) q)) hf (Nat.le_refl _) new
    refine ⟨.ref s.heap.objs.size, _, I1, rfl, ⟨_, x, rfl, I.hok.fresh (Nat.le_refl _), rfl, fun ys hy => by rw [I.sr_inj hy hqx]; exact hx⟩, ⟨⟨u, ?_⟩, Sr.itr_at (fun o q => (sb.2 N hne.symm).trans q) (k1 _ _ h1'), hin⟩, fun b hb => ?_⟩
    · have e1 : ((i + 1 : Nat) : Int) = (i : Int) + 1 := by omega
      rw [e1]; exact he'
    · have hb' : b < s.heap.objs.size := by
        have e' : b = N + 1 ∨ b = N := by simpa using hb
        have hel' : (N + 1 : Nat) < s.heap.objs.size := hel
        rcases e' with z | z
        · rw [z]; exact hel
        · rw [z]; exact Nat.lt_of_le_of_lt (by omega) hel'
      rw [upd_ne (Nat.ne_of_lt hb')]
      exact (hf b hb).1
  done := by
    intro X hP hw hK hc i pins s σ H E I hf st hg
    subst hP hw hK
    obtain ⟨⟨old, he⟩, h1, hn⟩ := st
    obtain ⟨xs, hqx, en, hin⟩ := hg
    obtain ⟨n1, P1, S1, D1, e1, s1, k1, v1⟩ := sr_draws hc I hqx h1 (fun b hb => Nat.ne_of_lt (l1 b hb))
    have : i = n1 := by omega
    subst this
    exact wpAny_pyNext_enum_endD D1 he s1 fun h' eb => ⟨rfl, I.turnedL (t' := s.toks) (ch := [N + 1, N]) (fun b o hb q => eb b o (fun z => hb (by simp [z])) q) hf⟩
  self := fun A i s Q E st h => let ⟨⟨_, he⟩, _⟩ := st; wpAny_pyIter_enum he h
def iEnumS (K : PySem.W.Frag) (ta : TA) : TI := fun σ H R => ta σ H fun vs H1 => ∃ r xs, vs = [Sr.v r] ∧ r.at_ K H1 xs ∧ R (IteS K r xs.length) H1
theorem pi_enumS {X : Cx} {e : Expr} {ta : TA} {p pos tpos : Pos} {elts : List Expr} {kk : Nat} (hg : Gl X "enumerate") (hm : X.mg "enumerate" = none) (ha : PA X [e] ta) (hs : starEach [e] X.env = [(false, eval e X.env)] := by rfl) :
    PI X (.Tuple elts kk tpos) (.Call (.Name "enumerate" p) [e] [] pos) (iEnumS X.K ta) := by
  refine ⟨fun pins s σ H R I h => ?_⟩
  refine Call_ (ld_blt I hg hm boot_enumerate (PyProof.Rows.callWith_type1 (thn (ha.run pos pins s σ H _ I h) fun us s1 ⟨vs, H1, I1, r1, q1⟩ => ?_) hs rfl))
  obtain ⟨a, xs, ex, hq, q⟩ := q1
  subst ex
  cases r1 with
  | cons r rr =>
    cases rr
    obtain ⟨o1, H1', B1, b1, c1⟩ := sr_begins I1 hq r
    refine enum_begins1 B1 b1 fun h' he hit hsz hk => wpAny_pyIter_enum he ?_
    have I2 : Inv X pins σ H1 { s1 with heap := h' } := I1.kept (t' := s1.toks) hk
    refine ⟨s1.heap.objs.size + 1, [s1.heap.objs.size + 1, s1.heap.objs.size], _, _, H1, rfl, I2, turn_enumS (I1.sr_lt hq), ⟨⟨.none, he⟩, c1 _ _ hit, Nat.zero_le _⟩, fun b hb => ?_, q⟩
    have e' : b = s1.heap.objs.size + 1 ∨ b = s1.heap.objs.size := by simpa using hb
    have hle : s1.heap.objs.size ≤ b := by
      rcases e' with z | z
      · rw [z]; exact Nat.le_add_right _ _
      · rw [z]; exact Nat.le_refl _
    exact I1.fpOk hle (I1.hok.fresh hle)
end L2
namespace Dn
open PySem PySem.Spec PySem.W PyProof.Rows L2
section
variable {T : Tb} {X : Cx} {W : WX} {tg e e2 : Expr} {p pos : Pos}
/-- a list, a tuple, a text, frozen -/
def rSrc (C : Ct) : RR (List D) := fun g _ v ds => ∃ r vs, v = Sr.v r ∧ r.at_ C.K g.F vs ∧ DenGL C g vs ds
theorem sr_sub {K : PySem.W.Frag} {F F' : Hp} (s : Sub F F') : ∀ {r : Sr} {vs : List V}, r.at_ K F vs → r.at_ K F' vs
  | .lst _, _, h => s.sqL h
  | .tup _, _, h => s.sqT h
  | .txt _, _, h => h
theorem stays_Src (C : Ct) : Stays (rSrc C) := fun g H g' H' v a t h => by
  obtain ⟨r, vs, e, q, l⟩ := h
  exact ⟨r, vs, e, sr_sub t.F q, t.denL l⟩
abbrev DR (T : Tb) (X : Cx) (W : WX) (e : Expr) (m : M (List D)) : Prop := PE X e (tG (ct T X) W (rSrc (ct T X)) m)
def mSrc (m : M D) : M (List D) := mOp1 oItems m
theorem den_signs {C : Ct} {F : Hp} {am : List Addr} : ∀ cs : List Nat, DenL C F am (cs.map fun c => V.str ⟨#[c]⟩) (cs.map fun c => .str ⟨#[c]⟩)
  | [] => .nil
  | c :: cs => .cons (.str _) (den_signs cs)
theorem dr_of {m : M D} (h : DE T X W e m) : DR T X W e (mSrc m) := by
  refine pe_imp h fun σ H Q q => ?_
  obtain ⟨g, env, s, r, h⟩ := q
  refine ⟨g, env, s, r, R.sat_mono (R.sat_bind h) (fun d s' q g' v H' t sr dn => ?_) fun _ _ q => q⟩
  cases eo : oItems d s' with
  | none => rw [eo] at q; exact q.elim
  | some ds =>
    rw [eo] at q
    refine q g' v H' t sr ?_
    unfold oItems at eo
    split at eo
    · cases eo
      cases dn with
      | lst k l => exact ⟨.lst _, _, rfl, .inl (.inl k), l⟩
    · cases eo
      cases dn with
      | tup k l => exact ⟨.tup _, _, rfl, k, l⟩
    · cases eo
      cases dn
      exact ⟨.txt _, _, rfl, rfl, den_signs _⟩
    · cases eo
      cases dn with
      | sc k l => exact ⟨.lst _, _, rfl, k, l⟩
    · cases eo
def oZipS (a b : List D) (_ : S) : Option (List D) := some (zipD a b)
theorem di_zipS {m m2 : M (List D)} {elts : List Expr} {kk : Nat} {tpos : Pos} (hg : Gl X "zip") (hm : X.mg "zip" = none) (h : DR T X W e m) (h2 : DR T X W e2 m2) (hs : starEach [e, e2] X.env = (false, eval e X.env) :: starEach [e2] X.env := by rfl)
    (hs2 : starEach [e2] X.env = (false, eval e2 X.env) :: starEach [] X.env := by rfl) (hpl : (backTo pos (starEach [e2] X.env)).any (·.1) = false := by rfl) : DI T X W (.Tuple elts kk tpos) (.Call (.Name "zip" p) [e, e2] [] pos) (mBin oZipS m m2) :=
  pi_imp (pi_zipS hg hm (pa_cons h (pa_cons h2 pa_nil hs2) hs) hs hpl) fun σ H Rk q => tI_bin (Ra := rSrc (ct T X)) (Rb := rSrc (ct T X)) (K := ItF)
    (r := fun x y H1 R => ∃ r1 r2 xs ys, [x, y] = [Sr.v r1, Sr.v r2] ∧ r1.at_ X.K H1 xs ∧ r2.at_ X.K H1 ys ∧ R (ItzS X.K r1 r2 (min xs.length ys.length)) H1) (stays_Src _) (fun g s H x y a b ds Rk sr ra rb ef k => by
    unfold oZipS at ef
    cases ef
    obtain ⟨r1, vs, rfl, q, l⟩ := ra
    obtain ⟨r2, ws, rfl, q2, l2⟩ := rb
    refine ⟨_, _, vs, ws, rfl, sr_sub sr.sub q, sr_sub sr.sub q2, k g _ H (.refl _ _) sr (itF_pair l l2 (fun i g1 H1 s1 fs sr1 x y hx hy => ?_) (fun i g1 H1 s1 fs sr1 ho => ?_) fun i g1 H1 s1 fs sr1 v H2 hy => ?_)⟩
    · have h1 := (List.getElem?_eq_some_iff.mp hx).1
      have h2 := (List.getElem?_eq_some_iff.mp hy).1
      exact ⟨_, _, x, y, sr_sub sr1.sub (sr_sub fs q), sr_sub sr1.sub (sr_sub fs q2), hx, hy, by omega⟩
    · exact ⟨_, _, sr_sub sr1.sub (sr_sub fs q), sr_sub sr1.sub (sr_sub fs q2), rfl, by omega⟩
    · obtain ⟨Tn, x, y, e1, e2, e3, h1, h2⟩ := hy
      exact ⟨Tn, x, y, e1, e2, e3, h1 _ (sr_sub sr1.sub (sr_sub fs q)), h2 _ (sr_sub sr1.sub (sr_sub fs q2))⟩) σ H Rk q
def enumD (xs : List D) : List D := xs.zipIdx.map fun p => .tuple [.int (p.2 : Nat), p.1]
theorem enumD_get {xs : List D} {i : Nat} {d : D} (h : (enumD xs)[i]? = some d) : ∃ a, xs[i]? = some a ∧ d = .tuple [.int (i : Nat), a] := by
  unfold enumD at h
  rw [List.getElem?_map, List.getElem?_zipIdx] at h
  cases e1 : xs[i]? with
  | none => rw [e1] at h; cases h
  | some a => rw [e1] at h; cases h; exact ⟨a, rfl, by simp⟩
def oEnum (a : List D) (_ : S) : Option (List D) := some (enumD a)
theorem di_enumS {m : M (List D)} {elts : List Expr} {kk : Nat} {tpos : Pos} (hg : Gl X "enumerate") (hm : X.mg "enumerate" = none) (h : DR T X W e m) (hs : starEach [e] X.env = [(false, eval e X.env)] := by rfl) (hs2 : starEach [e] X.env = (false, eval e X.env) :: starEach [] X.env := by rfl) :
    DI T X W (.Tuple elts kk tpos) (.Call (.Name "enumerate" p) [e] [] pos) (mOp1 oEnum m) :=
  pi_imp (pi_enumS hg hm (pa_cons h pa_nil hs2) hs) fun σ H Rk q => src_core (Ra := rSrc (ct T X)) (K := ItF)
    (r := fun x H1 R => ∃ r xs, [x] = [Sr.v r] ∧ r.at_ X.K H1 xs ∧ R (IteS X.K r xs.length) H1) (fun g s H x a ds Rk sr ra ef k => by
    cases ef
    obtain ⟨r, vs, rfl, q, l⟩ := ra
    refine ⟨r, vs, rfl, sr_sub sr.sub q, k g _ H (.refl _ _) sr fun i g1 H1 s1 fs fp sr1 => ?_⟩
    have h1 := sr_sub sr1.sub (sr_sub fs q)
    have hl : (enumD a).length = vs.length := by unfold enumD; rw [List.length_map, List.length_zipIdx, l.length]
    refine ⟨fun lt => ?_, fun ge => ⟨vs, h1, rfl, by omega⟩, fun v H2 d e hy => ?_⟩
    · exact ⟨vs, vs[i]'(by omega), h1, List.getElem?_eq_getElem _, by omega⟩
    · obtain ⟨Tn, x, rfl, nT, rfl, hx⟩ := hy
      obtain ⟨y, hy, rfl⟩ := enumD_get e
      obtain ⟨x', ex, dx⟩ := l.get' hy
      have hx := hx _ h1
      rw [ex] at hx; cases hx
      exact ⟨_, step_new sr1 nT, sr_new sr1 nT, .tup (.inl (.inl upd_same)) (.cons (.int _) (.cons ((dx.mono fs fp).mono (sub_new sr1 nT) (.refl _)) .nil))⟩) σ H Rk q
end
end Dn

set_option Elab.async false
set_option linter.all false
set_option maxRecDepth 100000
set_option maxHeartbeats 4000000
/-! text[::-1] -/
namespace L2
open PySem PySem.Spec PySem.W PyProof.Rows
def revS (x : Str) : Str := ⟨x.cps.toList.reverse.toArray⟩
theorem rev_indices (n : Nat) : Builtin.Str.strSliceIndices none none (-1) n = (List.range n).reverse := by
  have h : Builtin.Str.strSliceIndices none none (-1) n = sliceRange ((n : Int) - 1) (-1) (-1) := by
    unfold Builtin.Str.strSliceIndices
    rfl
  rw [h, krv_sliceRange, krv_range]
theorem rev_made (x : Str) (t u : Tok) : sliceMade x t none none (some (-1, u)) = .str (revS x) := by
  unfold sliceMade
  rw [if_neg (fun h => by rw [Bool.and_eq_true] at h; exact absurd h.1 (show ¬ (((-1 : Int) == 1) = true) by decide))]
  unfold revS slicePicked
  show Made.str ⟨((Builtin.Str.strSliceIndices none none (-1) x.length).filterMap (x.cps[·]?)).toArray⟩ = _
  rw [rev_indices, List.filterMap_reverse]
  show Made.str ⟨((List.range x.cps.size).filterMap (x.cps[·]?)).reverse.toArray⟩ = _
  rw [krv_all]
section
variable {X : Cx}
def tRevS (te : TE) : TE := fun σ H Q => te σ H fun x H1 => ∃ z, x = .str z ∧ z.length ≤ sizeLine ∧ Q (.str (revS z)) H1
theorem pe_revS {e : Expr} {te : TE} {k : Nat} {p1 p2 p3 pos : Pos} (he : PE X e te) : PE X (.Subscript e (.Slice none none (some (.UnaryOp .USub (.Constant (.int 1) k p1) p2)) p3) pos) (tRevS te) := by
  refine ⟨fun pins s σ H Q I h => ?_⟩
  refine Subscript_ (thn (he.run pins s σ H _ I h) fun v s1 ⟨x, H1, I1, r1, q1⟩ => ?_)
  obtain ⟨z, ex, hz, q⟩ := q1
  subst ex
  obtain ⟨tz, rfl⟩ := r1
  have hst : PO X (some (.UnaryOp .USub (.Constant (.int 1) k p1) p2)) (tPart (tUn (rU fun i => .int (-i)) (tC (.int 1)))) := po_some (pe_un un_neg pe_int)
  refine wpAny_Slice (thn (po_none.run pins s1 σ H1 (fun o H2 => o = none ∧ H2 = H1) I1 ⟨rfl, rfl⟩) fun vl s2 ⟨l, H2, I2, pl, el, e2⟩ => ?_)
  subst el e2
  refine thn (po_none.run pins s2 σ H2 (fun o H3 => o = none ∧ H3 = H2) I2 ⟨rfl, rfl⟩) fun vu s3 ⟨u, H3, I3, pu, eu, e3⟩ => ?_
  subst eu e3
  refine thn (hst.run pins s3 σ H3 (fun o H4 => o = some (-1) ∧ H4 = H3) I3 ⟨1, rfl, -1, rfl, rfl, rfl⟩) fun vs s4 ⟨o, H4, I4, ps, eo, e4⟩ => ?_
  subst eo e4
  have I5 : Inv X pins σ H4 { s4 with heap := s4.heap.push { cls := .type "slice", data := .fields #[vl, vu, vs] } } := I4.kept (t' := s4.toks) fun b ob q => Heap.get?_push_of_some _ q
  show wpAny (model X.prog X.w) X.A (subscriptTail e (.Slice none none (some (.UnaryOp .USub (.Constant (.int 1) k p1) p2)) p3) (.str z tz) (.ref s4.heap.objs.size)) (EP X pins σ Q) X.xe { s4 with heap := s4.heap.push { cls := .type "slice", data := .fields #[vl, vu, vs] } }
  obtain ⟨ts, es⟩ : ∃ ts, vs = Value.int (-1) ts := by cases ps; exact ⟨_, rfl⟩
  cases pl
  cases pu
  subst es
  refine tail_any (ops := [.str z tz, .ref s4.heap.objs.size]) (typeIs_str _ z tz) (F.slot_str_getitem.lookup) ?_ (by with_unfolding_all rfl)
  refine wpAny_getItem_str_slice (l := none) (u := none) (st := some (-1, ts)) ⟨_, Heap.get?_push_size _ rfl, rfl, rfl⟩ (show ((-1 : Int) == 0) = false by decide) ?_
  rw [rev_made]
  have hl : (revS z).length = z.length := by
    show (z.cps.toList.reverse.toArray).size = z.cps.size
    simp
  exact ⟨by rw [hl]; exact hz, ⟨.str (revS z), _, I5.tok _, ⟨_, rfl⟩, q⟩⟩
end
end L2
namespace Dn
open PySem PySem.Spec PySem.W PyProof.Rows L2
section
variable {T : Tb} {X : Cx} {W : WX}
def oRevS : D → S → Option D
  | .str z, _ => if z.length ≤ sizeLine then some (.str (revS z)) else none
  | _, _ => none
theorem de_revS {e : Expr} {m : M D} {k : Nat} {p1 p2 p3 pos : Pos} (h : DE T X W e m) : DE T X W (.Subscript e (.Slice none none (some (.UnaryOp .USub (.Constant (.int 1) k p1) p2)) p3) pos) (mOp1 oRevS m) :=
  pe_imp (pe_revS h) fun σ H Q q => op1_core (r := fun x H Q => ∃ z, x = .str z ∧ z.length ≤ sizeLine ∧ Q (.str (revS z)) H) (fun g s H x a c Q sr ra e h => by
    cases a with
    | str z => obtain ⟨k, rfl⟩ := iteS e; cases ra; exact ⟨z, rfl, k, h.here sr (.str _)⟩
    | _ => cases e) σ H Q q
end
end Dn

set_option Elab.async false
set_option linter.all false
set_option maxRecDepth 100000
set_option maxHeartbeats 4000000
/-! comprehensions with two fors -/
namespace Dn
open PySem PySem.Spec PyProof.Rows L2
def compLoop2 (asg : D → En → Option En) (test : M Bool) (src1 : M (List D)) (vs1 : List Nat) (asg1 : D → En → Option En) (test1 : M Bool) (elt : M D) : List D → List D → En → S → R (List D)
  | [], acc, _, s => .ok acc s
  | d :: ds, acc, env, s => match asg d env with
    | none => .bad
    | some env1 => match test env1 s with
      | .ok true s1 => match src1 env1 s1 with
        | .ok ds1 s2 => if acc.length + ds1.length ≤ sizeLine then (match compLoop asg1 test1 elt ds1 acc (wipeE env1 vs1) s2 with
          | .ok acc1 s3 => compLoop2 asg test src1 vs1 asg1 test1 elt ds acc1 env s3
          | _ => .bad) else .bad
        | _ => .bad
      | .ok false s1 => compLoop2 asg test src1 vs1 asg1 test1 elt ds acc env s1
      | _ => .bad
def mComp2 (src : M (List D)) (vs : List Nat) (asg : D → En → Option En) (test : M Bool) (src1 : M (List D)) (vs1 : List Nat) (asg1 : D → En → Option En) (test1 : M Bool) (elt : M D) : M (List D) := fun env s =>
  (src env s).bind fun ds s1 => match compLoop2 asg test src1 vs1 asg1 test1 elt ds [] (wipeE env vs) s1 with | .ok acc s2 => .ok acc s2 | _ => .bad
theorem compLoop_len {asg : D → En → Option En} {test : M Bool} {elt : M D} : ∀ {ds acc : List D} {env : En} {s : S} {out : List D} {s' : S}, compLoop asg test elt ds acc env s = .ok out s' → out.length ≤ acc.length + ds.length
  | [], acc, env, s, out, s', h => by
    unfold compLoop at h
    cases h
    omega
  | d :: ds, acc, env, s, out, s', h => by
    unfold compLoop at h
    cases ea : asg d env with
    | none => rw [ea] at h; cases h
    | some env1 =>
      rw [ea] at h
      dsimp only at h
      cases et : test env1 s with
      | exc y s3 => rw [et] at h; cases h
      | bad => rw [et] at h; cases h
      | ok k s3 =>
        rw [et] at h
        cases k with
        | false =>
          have := compLoop_len h
          simp only [List.length_cons]
          omega
        | true =>
          dsimp only at h
          cases ee : elt env1 s3 with
          | exc y s4 => rw [ee] at h; cases h
          | bad => rw [ee] at h; cases h
          | ok v s4 =>
            rw [ee] at h
            have := compLoop_len h
            rw [List.length_append] at this
            simp only [List.length_cons, List.length_nil] at *
            omega
/-- what a target's reading leaves alone -/
def AsgOk (asg : D → En → Option En) : Prop := ∀ d env env', asg d env = some env' → ∀ j : Nat, (∃ d, env'[j]? = some (.fz d)) ∨ env'[j]? = env[j]?
def AsgsOk (asg : List D → En → Option En) : Prop := ∀ d env env', asg d env = some env' → ∀ j : Nat, (∃ d, env'[j]? = some (.fz d)) ∨ env'[j]? = env[j]?
theorem asg_n (i : Nat) : AsgOk (gN i) := fun d env env' e j => by
  cases e
  by_cases h : i = j
  · subst h
    by_cases hl : i < env.length
    · exact .inl ⟨d, List.getElem?_set_self hl⟩
    · exact .inr (by rw [List.getElem?_eq_none (by rw [List.length_set]; omega), List.getElem?_eq_none (by omega)])
  · exact .inr (List.getElem?_set_ne h)
theorem asgs_nil : AsgsOk gsNil := fun d env env' e j => by
  cases d with
  | nil => cases e; exact .inr rfl
  | cons => cases e
theorem asgs_cons {asg : D → En → Option En} {asgs : List D → En → Option En} (h : AsgOk asg) (h' : AsgsOk asgs) : AsgsOk (gsCons asg asgs) := fun d env env' e j => by
  cases d with
  | nil => cases e
  | cons d ds =>
    have e : (asg d env).bind (asgs ds) = some env' := e
    cases e1 : asg d env with
    | none => rw [e1] at e; cases e
    | some env1 =>
      rw [e1] at e
      rcases h' ds env1 env' e j with z | z
      · exact .inl z
      · rcases h d env env1 e1 j with y | y
        · exact .inl (by rw [z]; exact y)
        · exact .inr (z.trans y)
theorem asg_t {asgs : List D → En → Option En} (h : AsgsOk asgs) : AsgOk (gT asgs) := fun d env env' e j => by
  cases d with
  | tuple ds => exact h ds env env' e j
  | _ => cases e
theorem wipeE_len : ∀ (vs : List Nat) (env : En), (wipeE env vs).length = env.length
  | [], env => rfl
  | v :: vs, env => by unfold wipeE; rw [List.length_set, wipeE_len vs env]
theorem wipeE_in {env : En} : ∀ {vs : List Nat} {j : Nat} {x : Sl}, j ∈ vs → (wipeE env vs)[j]? = some x → x = .un
  | v :: vs, j, x, h, e => by
    unfold wipeE at e
    by_cases hv : v = j
    · subst hv
      obtain ⟨hl, _⟩ := List.getElem?_eq_some_iff.mp e
      rw [List.getElem?_set_self (by rwa [List.length_set] at hl)] at e
      exact (Option.some.inj e).symm
    · rw [List.getElem?_set_ne hv] at e
      rcases List.mem_cons.mp h with z | z
      · exact absurd z.symm hv
      · exact wipeE_in z e
section
variable {T : Tb} {X : Cx} {W : WX} {tg iter tg1 iter1 elt : Expr} {ifs ifs1 : List Expr} {scope : Scope} {own : List (Str × Nat)} {vs1 : List Nat} {pos : Pos} {src src1 : M (List D)} {asg asg1 : D → En → Option En} {mt mt1 : M Bool} {me : M D}
theorem lc2_read {Rr : RR (List D)} (N : NewL (ct T X) Rr) {gt gt1 : TG} {is is1 : List Nat} (ha : AsgOk asg) (hg : GOk T X gt is asg) (hg1 : GOk T X gt1 is1 asg1) (hv : ∀ i ∈ is, i ∈ own.map (·.2)) (hv1 : ∀ i ∈ is1, i ∈ vs1) (σ : L2.St) (H : Hp) (Q : VK)
    (h : tG (ct T X) W Rr (mComp2 src (own.map (·.2)) asg mt src1 vs1 asg1 mt1 me) σ H Q) : tLc2 (tI (ct T X) W ItS src) gt (tT (ct T X) W0 mt) (tI (ct T X) W0 ItF src1) gt1 (tT (ct T X) W0 mt1) (tD (ct T X) W0 me) (own.map (·.2)) vs1 σ H Q := by
  obtain ⟨g, env, s, r, h⟩ := h
  refine ⟨g, env, s, r, R.sat_mono (R.sat_bind h) (fun ds s1 q g1 J H1 t1 sr1 it Dd nD => ?_) fun _ _ q => q⟩
  generalize hc : compLoop2 asg mt src1 vs1 asg1 mt1 me ds [] (wipeE env (own.map (·.2))) s1 = rr at q
  cases rr with
  | exc x s2 => exact q.elim
  | bad => exact q.elim
  | ok acc s2 =>
    refine ⟨fun i m H' => m = ds.length - i ∧ i ≤ ds.length ∧ ∃ g2 s2' vacc dacc, Step g1 H1 g2 H' ∧ SR (ct T X) g2 s2' H' ∧ H' Dd = some (.lst vacc) ∧ g2.F Dd = none ∧ Dd ∉ g2.am ∧ DenGL (ct T X) g2 vacc dacc ∧
        compLoop2 asg mt src1 vs1 asg1 mt1 me (ds.drop i) dacc (wipeE env (own.map (·.2))) s2' = .ok acc s2, ⟨ds.length, by omega, Nat.zero_le _, g1, s1, [], [], step_own nD, sr_own sr1 nD, upd_same, sr1.offF nD, sr1.noam nD, .nil, hc⟩, ?_⟩
    rintro i m H' ⟨rfl, hi, g2, s2', vacc, dacc, t2, sr2, hD, fD, aD, lD, eq⟩
    obtain ⟨go, stop, yl⟩ := it i g2 H' s2' t2 sr2
    by_cases lt : i < ds.length
    · refine .inr ⟨go lt, fun H4 => ∃ g4 s4 vacc dacc, Step g1 H1 g4 H4 ∧ SR (ct T X) g4 s4 H4 ∧ H4 Dd = some (.lst vacc) ∧ g4.F Dd = none ∧ Dd ∉ g4.am ∧ DenGL (ct T X) g4 vacc dacc ∧
        compLoop2 asg mt src1 vs1 asg1 mt1 me (ds.drop (i + 1)) dacc (wipeE env (own.map (·.2))) s4 = .ok acc s2, fun H4 p => ⟨ds.length - (i + 1), by omega, rfl, by omega, p⟩, fun x H3 hy => ?_⟩
      obtain ⟨g3, t3, sr3, dn3⟩ := yl x H3 ds[i] (List.getElem?_eq_getElem lt) hy
      rw [drop_cons lt] at eq
      unfold compLoop2 at eq
      cases ea : asg ds[i] (wipeE env (own.map (·.2))) with
      | none => rw [ea] at eq; cases eq
      | some env1 =>
        rw [ea] at eq
        have r3 := (r.step ((t1.trans t2).trans t3) sr3).wipe (own.map (·.2))
        refine hg g3 _ s2' _ H3 x ds[i] env1 _ r3 dn3 ea fun σ4 r4 _ ll fr => ?_
        refine ⟨wipe_same ll fr hv, g3, env1, s2', r4, ?_⟩
        dsimp only at eq
        cases et : mt env1 s2' with
        | exc y s3 => rw [et] at eq; cases eq
        | bad => rw [et] at eq; cases eq
        | ok k s3 =>
          rw [et] at eq
          intro g5 H5 t5 sr5
          cases k with
          | false =>
            have tt := (t3.trans t5)
            exact ⟨g5, s3, vacc, dacc, t2.trans tt, sr5, tt.kp _ _ hD aD lst_tbl, tt.off hD fD, tt.noam hD aD, tt.denL lD, eq⟩
          | true =>
            have r5 := r4.step t5 sr5
            refine ⟨g5, env1, s3, r5, ?_⟩
            dsimp only at eq
            cases es : src1 env1 s3 with
            | exc y s4 => rw [es] at eq; cases eq
            | bad => rw [es] at eq; cases eq
            | ok ds1 s4 =>
              rw [es] at eq
              dsimp only at eq
              by_cases zl : dacc.length + ds1.length ≤ sizeLine
              case neg => rw [if_neg zl] at eq; cases eq
              rw [if_pos zl] at eq
              intro g6 J1 H6 t6 sr6 it1
              cases ei : compLoop asg1 mt1 me ds1 dacc (wipeE env1 vs1) s4 with
              | exc y s5 => rw [ei] at eq; cases eq
              | bad => rw [ei] at eq; cases eq
              | ok acc1 s5 =>
                rw [ei] at eq
                dsimp only at eq
                have tt := (t3.trans t5).trans t6
                refine ⟨fun j m H' => m = ds1.length - j ∧ j ≤ ds1.length ∧ ∃ g7 s7 vacc1 dacc1, (Sub g6.F g7.F ∧ Pre g6.am g7.am) ∧ SR (ct T X) g7 s7 H' ∧ H' Dd = some (.lst vacc1) ∧ g7.F Dd = none ∧ Dd ∉ g7.am ∧ DenGL (ct T X) g7 vacc1 dacc1 ∧ dacc1.length ≤ dacc.length + j ∧ Step g1 H1 g7 H' ∧
                  compLoop asg1 mt1 me (ds1.drop j) dacc1 (wipeE env1 vs1) s7 = .ok acc1 s5, ⟨ds1.length, by omega, Nat.zero_le _, g6, s4, vacc, dacc, ⟨.refl _, .refl _⟩, sr6, tt.kp _ _ hD aD lst_tbl, tt.off hD fD, tt.noam hD aD, tt.denL lD, Nat.le_refl _, t2.trans tt, ei⟩, ?_⟩
                rintro j m1 H7 ⟨rfl, hj, g7, s7, vacc1, dacc1, t7, sr7, hD7, fD7, aD7, lD7, le7, b7, eq7⟩
                obtain ⟨go1, stop1, yl1⟩ := it1 j g7 H7 s7 t7.1 t7.2 sr7
                by_cases lt1 : j < ds1.length
                · refine .inr ⟨go1 lt1, fun H' => ∃ g7 s7 vacc1 dacc1, (Sub g6.F g7.F ∧ Pre g6.am g7.am) ∧ SR (ct T X) g7 s7 H' ∧ H' Dd = some (.lst vacc1) ∧ g7.F Dd = none ∧ Dd ∉ g7.am ∧ DenGL (ct T X) g7 vacc1 dacc1 ∧ dacc1.length ≤ dacc.length + (j + 1) ∧ Step g1 H1 g7 H' ∧
                    compLoop asg1 mt1 me (ds1.drop (j + 1)) dacc1 (wipeE env1 vs1) s7 = .ok acc1 s5, fun H4 p => ⟨ds1.length - (j + 1), by omega, rfl, by omega, p⟩, fun x1 H8 hy1 => ?_⟩
                  obtain ⟨g8, t8, sr8, dn8⟩ := yl1 x1 H8 ds1[j] (List.getElem?_eq_getElem lt1) hy1
                  rw [drop_cons lt1] at eq7
                  unfold compLoop at eq7
                  cases ea1 : asg1 ds1[j] (wipeE env1 vs1) with
                  | none => rw [ea1] at eq7; cases eq7
                  | some env2 =>
                    rw [ea1] at eq7
                    have rb := (r.step (t1.trans (b7.trans t8)) sr8).wipe (own.map (·.2))
                    have fr8 : Sub g3.F g8.F ∧ Pre g3.am g8.am := ⟨((t5.F.trans t6.F).trans t7.1).trans t8.F, ((t5.am.trans t6.am).trans t7.2).trans t8.am⟩
                    have slq : ∀ (k : Nat) (x : Sl), env1[k]? = some x → SlOk (ct T X) g8 σ4 H8 k x := by
                      intro k x hx
                      have old := r4.sl k x hx
                      rcases ha _ _ _ ea k with ⟨d, z⟩ | z
                      · rw [hx] at z
                        cases z
                        obtain ⟨v, e1, e2⟩ := old
                        exact ⟨v, e1, e2.mono fr8.1 fr8.2⟩
                      · rw [hx] at z
                        by_cases hk : k ∈ is
                        · rw [wipeE_in (hv k hk) z.symm]
                          trivial
                        · have hs := fr k hk
                          have new := rb.sl k x z.symm
                          cases x with
                          | un => trivial
                          | rv => exact hs.trans new
                          | fz d => obtain ⟨v, e1, e2⟩ := new; exact ⟨v, hs.trans e1, e2⟩
                          | ow ds => obtain ⟨a, vs, e1, e2⟩ := new; exact ⟨a, vs, hs.trans e1, e2⟩
                          | sh ds => obtain ⟨a, vs, e1, e2⟩ := new; exact ⟨a, vs, hs.trans e1, e2⟩
                    have re : Rel (ct T X) g8 env1 s7 σ4 H8 := { sr8 with slen := r4.slen, sl := slq, ap := r4.ap }
                    have r8 := re.wipe vs1
                    refine hg1 g8 _ s7 _ H8 x1 ds1[j] env2 _ r8 dn8 ea1 fun σ9 r9 _ ll1 fr1 => ?_
                    have ws : L2.wipe σ9 vs1 = L2.wipe σ4 vs1 := wipe_same ll1 fr1 hv1
                    refine ⟨ws, g8, env2, s7, r9, ?_⟩
                    dsimp only at eq7
                    cases et1 : mt1 env2 s7 with
                    | exc y s8 => rw [et1] at eq7; cases eq7
                    | bad => rw [et1] at eq7; cases eq7
                    | ok k1 s8 =>
                      rw [et1] at eq7
                      intro g10 H10 t10 sr10
                      cases k1 with
                      | false =>
                        have tu := t8.trans t10
                        exact ⟨g10, s8, vacc1, dacc1, ⟨t7.1.trans tu.F, t7.2.trans tu.am⟩, sr10, tu.kp _ _ hD7 aD7 lst_tbl, tu.off hD7 fD7, tu.noam hD7 aD7, tu.denL lD7, Nat.le_succ_of_le le7, b7.trans tu, eq7⟩
                      | true =>
                        refine ⟨g10, env2, s8, r9.step t10 sr10, ?_⟩
                        dsimp only at eq7
                        cases ee : me env2 s8 with
                        | exc y s9 => rw [ee] at eq7; cases eq7
                        | bad => rw [ee] at eq7; cases eq7
                        | ok v s9 =>
                          rw [ee] at eq7
                          intro g11 y H11 t11 sr11 dn11
                          have tu := (t8.trans t10).trans t11
                          have hD11 := tu.kp _ _ hD7 aD7 lst_tbl
                          have f11 := tu.off hD7 fD7
                          have a11 := tu.noam hD7 aD7
                          have l11 := tu.denL lD7
                          have nD6 : Vac H1 Dd := vac_none nD
                          refine ⟨vacc1, hD11, ?_, g11, s9, vacc1 ++ [y], dacc1 ++ [v], ⟨t7.1.trans tu.F, t7.2.trans tu.am⟩, sr_upd sr11 hD11 f11 a11, upd_same, f11, a11, l11.append (.one dn11), by rw [List.length_append]; simp only [List.length_cons, List.length_nil]; omega, step_upd (b7.trans tu) nD6, eq7⟩
                          · rw [l11.length]
                            omega
                · have e2 : j = ds1.length := by omega
                  subst e2
                  rw [List.drop_length] at eq7
                  unfold compLoop at eq7
                  cases eq7
                  exact .inl ⟨stop1 (Nat.le_refl _), g7, _, vacc1, _, b7, sr7, hD7, fD7, aD7, lD7, eq⟩
    · have e2 : i = ds.length := by omega
      subst e2
      rw [List.drop_length] at eq
      unfold compLoop2 at eq
      cases eq
      refine .inl ⟨stop (Nat.le_refl _), ?_⟩
      have nD0 : Vac H Dd := t1.dm _ (vac_none nD)
      have nnd : ¬ g2.nd Dd := fun z => by
        rw [(t1.trans t2).nd] at z
        exact r.ndo Dd z nD0
      exact N.fin g H g2 s2 H' Dd vacc acc Q q (t1.trans t2) sr2 hD fD aD nD0 nnd lD
theorem dl_lc2 {Rr : RR (List D)} (N : NewL (ct T X) Rr) {is is1 : List Nat} {rp : Bool} (A : At T X W rp) (hc : X.calm = true) (hi : DJ T X W tg iter src) (ok : BlkOk X.N X.env.scope scope own) (hvs : ∀ i ∈ vs1, i ∈ own.map (·.2)) (ha : AsgOk asg)
    (hg : ∃ gt, GOk T X gt is asg ∧ Blk X scope fun Y => PG Y tg gt) (hv : ∀ i ∈ is, i ∈ own.map (·.2)) (ht : Blk X scope fun Y => DTs T Y W0 ifs mt)
    (hi1 : Blk X scope fun Y => DI T Y W0 tg1 iter1 src1) (hg1 : ∃ gt, GOk T X gt is1 asg1 ∧ Blk X scope fun Y => PG Y tg1 gt) (hv1 : ∀ i ∈ is1, i ∈ vs1) (ht1 : Blk X scope fun Y => DTs T Y W0 ifs1 mt1)
    (he : Blk X scope fun Y => DE T Y W0 elt me) (hs : ∀ x, foldedSetIterable iter X.env x = pure x := by intro _; rfl) (hs1 : ∀ env x, foldedSetIterable iter1 env x = pure x := by intro _ _; rfl) :
    DL T X W Rr (.ListComp elt [⟨tg, iter, ifs, 0⟩, ⟨tg1, iter1, ifs1, 0⟩] scope pos) (mComp2 src (own.map (·.2)) asg mt src1 vs1 asg1 mt1 me) := by
  obtain ⟨gt, go, gb⟩ := hg
  obtain ⟨gt1, go1, gb1⟩ := hg1
  exact pe_imp (pe_lc2 (wi := tI (ct T X) W ItS src) (tt := tT (ct T X) W0 mt) (te := tD (ct T X) W0 me) (wi1 := tI (ct T X) W0 ItF src1) (tt1 := tT (ct T X) W0 mt1) hc A.nd hi ok hvs gb ht hi1 gb1 ht1 he hs hs1) (lc2_read N ha go go1 hv hv1)
theorem ds_setLc2 {B : Bs} {i : Nat} {y : Str} {py spos : Pos} {is is1 : List Nat} {rp : Bool} (A : At T X W rp) (hc : X.calm = true) (hy : X.N[i]? = some y) (hyl : X.env.scope.names.lookup y = some .local)
    (hsw : swapsWith (.ListComp elt [⟨tg, iter, ifs, 0⟩, ⟨tg1, iter1, ifs1, 0⟩] scope pos) (some (.Name y py)) spos.line X.env = pure true) (hi : DJ T X W tg iter src) (ok : BlkOk X.N X.env.scope scope own) (hvs : ∀ i ∈ vs1, i ∈ own.map (·.2)) (ha : AsgOk asg)
    (hg : ∃ gt, GOk T X gt is asg ∧ Blk X scope fun Y => PG Y tg gt) (hv : ∀ i ∈ is, i ∈ own.map (·.2)) (ht : Blk X scope fun Y => DTs T Y W0 ifs mt)
    (hi1 : Blk X scope fun Y => DI T Y W0 tg1 iter1 src1) (hg1 : ∃ gt, GOk T X gt is1 asg1 ∧ Blk X scope fun Y => PG Y tg1 gt) (hv1 : ∀ i ∈ is1, i ∈ vs1) (ht1 : Blk X scope fun Y => DTs T Y W0 ifs1 mt1)
    (he : Blk X scope fun Y => DE T Y W0 elt me) (hs : ∀ x, foldedSetIterable iter X.env x = pure x := by intro _; rfl) (hs1 : ∀ env x, foldedSetIterable iter1 env x = pure x := by intro _ _; rfl) :
    DS T X W B (.Assign [.Name y py] (.ListComp elt [⟨tg, iter, ifs, 0⟩, ⟨tg1, iter1, ifs1, 0⟩] scope pos) spos) (mSet i (mL (mComp2 src (own.map (·.2)) asg mt src1 vs1 asg1 mt1 me))) := by
  obtain ⟨gt, go, gb⟩ := hg
  obtain ⟨gt1, go1, gb1⟩ := hg1
  refine ps_imp (ps_setLc2 (wi := tI (ct T X) W ItS src) (tt := tT (ct T X) W0 mt) (te := tD (ct T X) W0 me) (wi1 := tI (ct T X) W0 ItF src1) (tt1 := tT (ct T X) W0 mt1) hc A.nd hy hyl hsw hi ok hvs gb ht hi1 gb1 ht1 he hs hs1) fun E σ H ⟨g, env, s, r, q⟩ => ?_
  refine lc2_read (newL_fz (C := ct T X)) ha go go1 hv hv1 σ H _ ?_
  obtain ⟨g1, env1, s1, r1, q1⟩ := tG_of (Rr := rD (ct T X)) (m := mL (mComp2 src (own.map (·.2)) asg mt src1 vs1 asg1 mt1 me)) r q fun d s' g' v H' r' dn q => (q g' _ H' (r'.setFz i dn) : E.nx _ H')
  exact ⟨g1, env1, s1, r1, R.sat_mono (R.sat_bind q1) (fun ds s' q g' v H' t sr dn => q g' v H' t sr dn) fun _ _ q => q⟩
end
end Dn

set_option Elab.async false
set_option linter.all false
set_option maxRecDepth 100000
set_option maxHeartbeats 4000000
/-! more readings: two-for comprehensions, sorted, sets, zip, enumerate -/
namespace Dn
open PySem PySem.Spec PySem.W PyProof.Rows L2 SetM
section
variable {α β γ : Type} {asg asg1 : D → En → Option En} {env : En} {s s1 : S}
theorem compLoop_map {test : M Bool} {elt : M D} {f : α → D} (p : α → Bool) (v : α → D) : ∀ (ys : List α) (acc : List D), (∀ x ∈ ys, ∃ env1, asg (f x) env = some env1 ∧ test env1 s = .ok (p x) s ∧ (p x = true → elt env1 s = .ok (v x) s)) →
    compLoop asg test elt (ys.map f) acc env s = .ok (acc ++ (ys.filter p).map v) s
  | [], acc, _ => by simp [compLoop]
  | y :: ys, acc, h => by
    obtain ⟨env1, e1, e2, e3⟩ := h y (by simp)
    have ih := fun acc => compLoop_map p v ys acc fun x hx => h x (by simp [hx])
    rw [List.map_cons]
    unfold compLoop
    rw [e1]
    dsimp only
    rw [e2]
    cases hp : p y with
    | false =>
      dsimp only
      rw [ih, List.filter_cons_of_neg (by simp [hp])]
    | true =>
      dsimp only
      rw [e3 hp]
      dsimp only
      rw [ih, List.filter_cons_of_pos (by simp [hp]), List.map_cons, List.append_assoc]
      rfl
theorem comp2_map {src src1 : M (List D)} {vs vs1 : List Nat} {test test1 : M Bool} {elt : M D} {xs : List α} {f : α → D} {ys : α → List β} {g : β → D} (m : Nat) (p : α → Bool) (p1 : α → β → Bool) (v : α → β → D) (hs : src env s = .ok (xs.map f) s1) (hl : xs.length * m ≤ 1000000) (hm : ∀ x ∈ xs, (ys x).length ≤ m)
    (h : ∀ x ∈ xs, ∃ env1, asg (f x) (wipeE env vs) = some env1 ∧ test env1 s1 = .ok (p x) s1 ∧ (p x = true → src1 env1 s1 = .ok ((ys x).map g) s1 ∧ ∀ y ∈ ys x, ∃ env2, asg1 (g y) (wipeE env1 vs1) = some env2 ∧ test1 env2 s1 = .ok (p1 x y) s1 ∧ (p1 x y = true → elt env2 s1 = .ok (v x y) s1))) :
    mComp2 src vs asg test src1 vs1 asg1 test1 elt env s = .ok ((xs.filter p).flatMap fun x => ((ys x).filter (p1 x)).map (v x)) s1 := by
  unfold mComp2
  rw [hs]
  have : ∀ (zs : List α) (acc : List D), (∀ x ∈ zs, x ∈ xs) → acc.length + zs.length * m ≤ 1000000 → compLoop2 asg test src1 vs1 asg1 test1 elt (zs.map f) acc (wipeE env vs) s1 = .ok (acc ++ (zs.filter p).flatMap fun x => ((ys x).filter (p1 x)).map (v x)) s1 := by
    intro zs
    induction zs with
    | nil => intro acc _ _; simp [compLoop2]
    | cons z zs ih =>
      intro acc hz hb
      have hzx := hz z (by simp)
      obtain ⟨env1, e1, e2, e3⟩ := h z hzx
      have hmz := hm z hzx
      rw [List.length_cons, Nat.succ_mul] at hb
      rw [List.map_cons]
      unfold compLoop2
      rw [e1]
      dsimp only
      rw [e2]
      cases hp : p z with
      | false =>
        dsimp only
        rw [ih acc (fun x hx => hz x (by simp [hx])) (by omega), List.filter_cons_of_neg (by simp [hp])]
      | true =>
        obtain ⟨e4, e5⟩ := e3 hp
        dsimp only
        rw [e4]
        dsimp only
        rw [if_pos (by rw [List.length_map, sizeLine_eq]; omega), compLoop_map (p1 z) (v z) (ys z) acc e5]
        dsimp only
        have hle : ((List.filter (p1 z) (ys z)).map (v z)).length ≤ m := by
          rw [List.length_map]
          exact Nat.le_trans (List.length_filter_le _ _) hmz
        rw [ih _ (fun x hx => hz x (by simp [hx])) (by rw [List.length_append]; omega), List.filter_cons_of_pos (by simp [hp]), List.flatMap_cons, List.append_assoc]
  show (match compLoop2 asg test src1 vs1 asg1 test1 elt (xs.map f) [] (wipeE env vs) s1 with | .ok acc s2 => R.ok acc s2 | _ => .bad) = _
  rw [this xs [] (fun _ h => h) (by simpa using hl)]
  rfl
/-- a test that draws: some of them -/
theorem comp_pick {src : M (List D)} {vs : List Nat} {test : M Bool} {elt : M D} {xs : List α} {f : α → D} (I : S → Prop) (v : α → D) (hs : src env s = .ok (xs.map f) s1) (hl : xs.length ≤ 1000000) (h1 : I s1)
    (h : ∀ x ∈ xs, ∀ s, I s → ∃ env1 b s', asg (f x) (wipeE env vs) = some env1 ∧ test env1 s = .ok b s' ∧ I s' ∧ (b = true → elt env1 s' = .ok (v x) s')) :
    ∃ (zs : List α) (s' : S), mComp src vs asg test elt env s = .ok (zs.map v) s' ∧ zs.Sublist xs ∧ I s' := by
  have hl' : (xs.map f).length ≤ sizeLine := by rw [List.length_map, sizeLine_eq]; exact Nat.le_trans hl (by decide)
  have : ∀ (ys : List α) (acc : List D) (s : S), (∀ x ∈ ys, x ∈ xs) → I s → ∃ (zs : List α) (s' : S), compLoop asg test elt (ys.map f) acc (wipeE env vs) s = .ok (acc ++ zs.map v) s' ∧ zs.Sublist ys ∧ I s' := by
    intro ys
    induction ys with
    | nil => intro acc s _ hi; exact ⟨[], s, by simp [compLoop], .slnil, hi⟩
    | cons y ys ih =>
      intro acc s hy hi
      obtain ⟨env1, b, s', e1, e2, e3, e4⟩ := h y (hy y (by simp)) s hi
      rw [List.map_cons]
      unfold compLoop
      rw [e1]
      dsimp only
      rw [e2]
      cases b with
      | false =>
        obtain ⟨zs, s2, k1, k2, k3⟩ := ih acc s' (fun x hx => hy x (by simp [hx])) e3
        exact ⟨zs, s2, k1, .cons _ k2, k3⟩
      | true =>
        dsimp only
        rw [e4 rfl]
        obtain ⟨zs, s2, k1, k2, k3⟩ := ih (acc ++ [v y]) s' (fun x hx => hy x (by simp [hx])) e3
        exact ⟨y :: zs, s2, by rw [List.map_cons]; simpa using k1, .cons₂ _ k2, k3⟩
  obtain ⟨zs, s', k1, k2, k3⟩ := this xs [] s1 (fun _ h => h) h1
  refine ⟨zs, s', ?_, k2, k3⟩
  unfold mComp
  rw [hs]
  show (if (xs.map f).length ≤ sizeLine then _ else _) = _
  rw [if_pos hl', k1]
  rfl
end
section
variable {s : S} {env : En}
theorem v_src {m : M D} : mSrc m env s = (m env s).bind fun a s1 => R.lift (oItems a s1) s1 := rfl
theorem oZipS_i {a b : List D} : oZipS a b s = some (zipD a b) := rfl
theorem oEnum_i {a : List D} : oEnum a s = some (enumD a) := rfl
theorem zipD_map {α β : Type} {f : α → D} {g : β → D} : ∀ (xs : List α) (ys : List β), zipD (xs.map f) (ys.map g) = (xs.zip ys).map fun p => .tuple [f p.1, g p.2]
  | [], _ => rfl
  | _ :: _, [] => rfl
  | x :: xs, y :: ys => by
    have := zipD_map (f := f) (g := g) xs ys
    unfold zipD at this ⊢
    rw [List.map_cons, List.map_cons, List.zipWith_cons_cons, this]
    rfl
theorem enumD_map {α : Type} {f : α → D} (xs : List α) : enumD (xs.map f) = xs.zipIdx.map fun p => .tuple [.int (p.2 : Nat), f p.1] := by
  unfold enumD
  rw [List.zipIdx_map, List.map_map]
  rfl
theorem oSetOf_s {b : Bool} {xs : List Str} (h : xs.length ≤ 4000) : oSetOf (b, xs.map .str) s = some (xs.map .str) := by
  unfold oSetOf
  dsimp only
  rw [keysD_strs]
  dsimp only
  rw [if_pos]
  rw [List.length_map]
  exact Nat.lt_of_le_of_lt (Nat.succ_le_succ h) (by decide)
theorem oSetOf_i {b : Bool} {xs : List Int} (h : xs.length ≤ 4000) : oSetOf (b, xs.map .int) s = some (xs.map .int) := by
  unfold oSetOf
  dsimp only
  rw [keysD_ints]
  dsimp only
  rw [if_pos]
  rw [List.length_map]
  exact Nat.lt_of_le_of_lt (Nat.succ_le_succ h) (by decide)
theorem oSortSet_i {xs : List Int} : oSortSet (xs.map .int) s = some ((ord kI xs).map .int) := by
  unfold oSortSet ordD
  rw [intsD_map]
theorem oSortSet_s {xs : List Str} : oSortSet (xs.map .str) s = some ((ord kS xs).map .str) := by
  unfold oSortSet ordD
  cases xs with
  | nil =>
    have e1 : ord kI [] = [] := by unfold ord dedup; simp
    have e2 : ord kS [] = [] := by unfold ord dedup; simp
    show some ((ord kI []).map PyData.int) = some ((ord kS []).map PyData.str)
    rw [e1, e2]
    rfl
  | cons x xs =>
    have : intsD ((x :: xs).map .str) = none := rfl
    rw [this, strsD_map]
    rfl
theorem flat_list {α : Type} {f : α → D} (hf : ∀ a b, alike (f a) (f b) = true) (h1 : ∀ a, isFlat (f a) = true) (h2 : ∀ a, (f a).hasDict = false) (h3 : ∀ a, (f a).depth ≤ 1) (xs : List α) : okSort (xs.map f) = true := by
  have e1 : PyData.hasDictAll (xs.map f) = false := by
    induction xs with
    | nil => simp [PyData.hasDictAll]
    | cons x xs ih => rw [List.map_cons, PyData.hasDictAll, h2, ih]; rfl
  have e2 : PyData.depthAll (xs.map f) ≤ 1 := by
    induction xs with
    | nil => simp [PyData.depthAll]
    | cons x xs ih => rw [List.map_cons, PyData.depthAll]; have := h3 x; have e1' : PyData.hasDictAll (xs.map f) = false := by rw [List.map_cons, PyData.hasDictAll, h2] at e1; simpa using e1
                      have := ih e1'; omega
  unfold okSort okAlike
  simp only [Bool.and_eq_true, Bool.or_eq_true, Bool.not_eq_true', decide_eq_true_eq, List.all_eq_true]
  refine ⟨⟨fun d hd e he => ?_, e1, by omega⟩, .inr fun d hd => ?_⟩
  · obtain ⟨x, _, rfl⟩ := List.mem_map.mp hd
    obtain ⟨y, _, rfl⟩ := List.mem_map.mp he
    exact hf x y
  · obtain ⟨x, _, rfl⟩ := List.mem_map.mp hd
    exact h1 x
theorem hd_s (x : Str) : (PyData.str x).hasDict = false := by simp only [PyData.hasDict]
theorem hd_i (x : Int) : (PyData.int x).hasDict = false := by simp only [PyData.hasDict]
theorem okSort_s (xs : List Str) : okSort (xs.map .str) = true := flat_list (fun a b => kS.like a b) (fun _ => rfl) hd_s (fun a => kS.shallow a) xs
theorem okSort_i (xs : List Int) : okSort (xs.map .int) = true := flat_list (fun a b => kI.like a b) (fun _ => rfl) hd_i (fun a => kI.shallow a) xs
theorem sortD_s (xs : List Str) : sortD (xs.map .str) = (xs.mergeSort kS.le).map .str := by
  unfold sortD
  rw [← kS.leq]
  exact (List.map_mergeSort (r := dataLe false kS.enc) (s := dataLe false id) (f := PyData.str) (fun a _ b _ => rfl)).symm
theorem sortD_i (xs : List Int) : sortD (xs.map .int) = (xs.mergeSort kI.le).map .int := by
  unfold sortD
  rw [← kI.leq]
  exact (List.map_mergeSort (r := dataLe false kI.enc) (s := dataLe false id) (f := PyData.int) (fun a _ b _ => rfl)).symm
theorem oSortL_s {b : Bool} {xs : List Str} : oSortL (b, xs.map .str) s = some ((xs.mergeSort kS.le).map .str) := by
  unfold oSortL
  dsimp only
  rw [if_pos (okSort_s xs), sortD_s]
theorem oSortL_i {b : Bool} {xs : List Int} : oSortL (b, xs.map .int) s = some ((xs.mergeSort kI.le).map .int) := by
  unfold oSortL
  dsimp only
  rw [if_pos (okSort_i xs), sortD_i]
theorem oSumQ_i {b : Bool} {xs : List Int} : oSumQ (b, xs.map .int) s = some (.int xs.sum) := by
  unfold oSumQ
  dsimp only
  rw [intsD_map]
  rfl
end
end Dn
namespace Dn
open PySem PySem.Spec PySem.W PyProof.Rows L2
/-- what can be compared -/
structure Sh (h : Nat) (d : D) : Prop where
  lay : d.canLay0 = true
  dp : d.depth ≤ h
theorem sh_none {h : Nat} : Sh h .none := ⟨rfl, by simp only [PyData.depth]; omega⟩
theorem sh_b {h : Nat} {b : Bool} : Sh h (.bool b) := ⟨rfl, by simp only [PyData.depth]; omega⟩
theorem sh_i {h : Nat} {b : Int} : Sh h (.int b) := ⟨rfl, by simp only [PyData.depth]; omega⟩
theorem sh_s {h : Nat} {b : Str} (k : PyData.strOk b = true) : Sh h (.str b) := ⟨by rw [PyData.canLay0]; exact k, by simp only [PyData.depth]; omega⟩
theorem sh_all {h : Nat} : ∀ {ds : List D}, (∀ d ∈ ds, Sh h d) → PyData.canLayAll0 ds = true ∧ PyData.depthAll ds ≤ h
  | [], _ => ⟨by simp only [PyData.canLayAll0], by simp only [PyData.depthAll]; omega⟩
  | d :: ds, k => by
    obtain ⟨a, b⟩ := sh_all (ds := ds) fun e he => k e (by simp [he])
    have q := k d (by simp)
    exact ⟨by rw [PyData.canLayAll0, q.lay, a]; rfl, by rw [PyData.depthAll]; have := q.dp; omega⟩
theorem sh_tup {h : Nat} {ds : List D} (k : ∀ d ∈ ds, Sh h d) : Sh (h + 1) (.tuple ds) := by
  obtain ⟨a, b⟩ := sh_all k
  exact ⟨by rw [PyData.canLay0]; exact a, by rw [PyData.depth]; omega⟩
theorem sh_list {h : Nat} {ds : List D} (k : ∀ d ∈ ds, Sh h d) : Sh (h + 1) (.list ds) := by
  obtain ⟨a, b⟩ := sh_all k
  exact ⟨by rw [PyData.canLay0]; exact a, by rw [PyData.depth]; omega⟩
theorem shl_s {h : Nat} {xs : List Str} (k : ∀ x ∈ xs, PyData.strOk x = true) : ∀ d ∈ xs.map PyData.str, Sh h d := fun d hd => by
  obtain ⟨x, hx, rfl⟩ := List.mem_map.mp hd
  exact sh_s (k x hx)
theorem shl_i {h : Nat} (xs : List Int) : ∀ d ∈ xs.map PyData.int, Sh h d := fun d hd => by
  obtain ⟨x, _, rfl⟩ := List.mem_map.mp hd
  exact sh_i
theorem sh_shaped {h : Nat} {d : D} (k : Sh h d) (hh : h ≤ 64 := by decide) : SeqAt.shaped d = true := by
  unfold SeqAt.shaped
  rw [Bool.and_eq_true, decide_eq_true_eq]
  exact ⟨k.lay, Nat.le_trans k.dp hh⟩
theorem eqD_refl {h : Nat} {d : D} (k : Sh h d) (hh : h ≤ 64 := by decide) : eqD d d = some true := by
  have hs := sh_shaped k hh
  have g : (if SeqAt.shaped d && SeqAt.shaped d then some (PyData.eqv d d) else none) = some true := by
    rw [hs, SeqAt.eqv_refl _ (SeqAt.canLay_of_shaped hs)]
    rfl
  cases d with
  | int i => show some (i == i) = _; rw [beq_self_eq_true]
  | str i => show some (i == i) = _; rw [beq_self_eq_true]
  | bool i => show some (i == i) = _; rw [beq_self_eq_true]
  | none => exact g
  | list ds => exact g
  | tuple ds => exact g
  | dict ds => exact g
theorem oEq_rf {h : Nat} {d : D} {s : S} (k : Sh h d) (hh : h ≤ 64 := by decide) : oEq d d s = some (.bool true) := by
  unfold oEq
  rw [eqD_refl k hh]
  rfl
theorem oNe_rf {h : Nat} {d : D} {s : S} (k : Sh h d) (hh : h ≤ 64 := by decide) : oNe d d s = some (.bool false) := by
  unfold oNe
  rw [eqD_refl k hh]
  rfl
theorem oNe_ss {xs : List Str} {s : S} (k : ∀ x ∈ xs, PyData.strOk x = true) : oNe (.tuple (xs.map .str)) (.tuple (xs.map .str)) s = some (.bool false) := oNe_rf (sh_tup (h := 0) (shl_s k))
theorem oNe_is {xs : List Int} {s : S} : oNe (.tuple (xs.map .int)) (.tuple (xs.map .int)) s = some (.bool false) := oNe_rf (sh_tup (h := 0) (shl_i xs))
end Dn

set_option Elab.async false
set_option linter.all false
set_option maxRecDepth 100000
set_option maxHeartbeats 1000000
namespace K76
open PySem PySem.Spec PyProof.Rows L2 LamX Dn
abbrev top (i : Nat) : Stmt := PySem.Challenge.pw_postshire_k76_whole_marks_turned_and_wor.main.body.getD i (.Pass ⟨0, 0, 0, 0⟩)
abbrev s_is_integer : Stmt := top 1
abbrev N_is_integer : List Str := ["thing"]
abbrev s_is_within : Stmt := top 2
abbrev N_is_within : List Str := ["thing", "low", "high"]
abbrev s_are_below : Stmt := top 3
abbrev N_are_below : List Str := ["thing", "many", "one"]
abbrev s_is_row : Stmt := top 4
abbrev N_is_row : List Str := ["thing", "many", "one", "other"]
abbrev s_are_digits : Stmt := top 5
abbrev N_are_digits : List Str := ["thing", "least", "most", "sign"]
abbrev s_month_length : Stmt := top 17
abbrev N_month_length : List Str := ["month", "year"]
abbrev s_parts_of : Stmt := top 18
abbrev N_parts_of : List Str := ["text"]
abbrev s_are_mark : Stmt := top 19
abbrev N_are_mark : List Str := ["thing", "day", "month", "year"]
abbrev s_is_mark : Stmt := top 20
abbrev N_is_mark : List Str := ["thing"]
abbrev s_check_mark : Stmt := top 21
abbrev N_check_mark : List Str := ["mark"]
abbrev s_year_days : Stmt := top 22
abbrev N_year_days : List Str := ["year"]
abbrev s_mark_of : Stmt := top 23
abbrev N_mark_of : List Str := ["number", "year", "month"]
abbrev s_turned_marks : Stmt := top 24
abbrev N_turned_marks : List Str := ["mark", "some", "one"]
abbrev s_steps_between : Stmt := top 25
abbrev N_steps_between : List Str := ["one", "other", "far"]
abbrev s_fewest_turns : Stmt := top 26
abbrev N_fewest_turns : List Str := ["mark", "other", "one", "two"]
abbrev s_worn : Stmt := top 27
abbrev N_worn : List Str := ["mark", "places", "found", "place", "one", "digit"]
abbrev s__law_hand : Stmt := top 29
abbrev N__law_hand : List Str := ["script", "cells", "cell"]
abbrev s__law_draw : Stmt := top 30
abbrev N__law_draw : List Str := ["hand", "many", "cell", "digit", "number"]
abbrev s__law_any : Stmt := top 31
abbrev N__law_any : List Str := ["hand", "some"]
abbrev s__law_is_mark : Stmt := top 32
abbrev N__law_is_mark : List Str := ["thing", "day", "month", "year", "days"]
abbrev s__law_marks : Stmt := top 33
abbrev N__law_marks : List Str := ["hand", "some"]
abbrev s__law_turned : Stmt := top 34
abbrev N__law_turned : List Str := ["mark", "some", "one"]
abbrev s__law_steps : Stmt := top 35
abbrev N__law_steps : List Str := ["mark", "other", "found", "one", "two", "gap"]
abbrev s__law_worn : Stmt := top 36
abbrev N__law_worn : List Str := ["mark", "places", "found", "place", "later", "one", "sign"]
abbrev s__law_mark_right : Stmt := top 37
abbrev N__law_mark_right : List Str := ["hand", "mark", "places", "other", "third", "steps", "place", "one"]
abbrev s__law_word : Stmt := top 38
abbrev N__law_word : List Str := ["call", "error", "flags"]
abbrev s__law_refused_right : Stmt := top 39
abbrev N__law_refused_right : List Str := ["hand", "mark", "bad", "odd", "words"]
abbrev s_law : Stmt := top 40
abbrev N_law : List Str := ["script", "hand", "turn", "mark"]
theorem sc_is_integer : FnScope N_is_integer ["thing"] (defScope s_is_integer) := ⟨rfl, rfl, rfl, by decide +kernel, rfl, by decide +kernel, by decide +kernel⟩
theorem sc_is_within : FnScope N_is_within ["thing", "low", "high"] (defScope s_is_within) := ⟨rfl, rfl, rfl, by decide +kernel, rfl, by decide +kernel, by decide +kernel⟩
theorem sc_are_below : FnScope N_are_below ["thing", "many"] (defScope s_are_below) := ⟨rfl, rfl, rfl, by decide +kernel, rfl, by decide +kernel, by decide +kernel⟩
theorem sc_is_row : FnScope N_is_row ["thing", "many"] (defScope s_is_row) := ⟨rfl, rfl, rfl, by decide +kernel, rfl, by decide +kernel, by decide +kernel⟩
theorem sc_are_digits : FnScope N_are_digits ["thing", "least", "most"] (defScope s_are_digits) := ⟨rfl, rfl, rfl, by decide +kernel, rfl, by decide +kernel, by decide +kernel⟩
theorem sc_month_length : FnScope N_month_length ["month", "year"] (defScope s_month_length) := ⟨rfl, rfl, rfl, by decide +kernel, rfl, by decide +kernel, by decide +kernel⟩
theorem sc_parts_of : FnScope N_parts_of ["text"] (defScope s_parts_of) := ⟨rfl, rfl, rfl, by decide +kernel, rfl, by decide +kernel, by decide +kernel⟩
theorem sc_are_mark : FnScope N_are_mark ["thing"] (defScope s_are_mark) := ⟨rfl, rfl, rfl, by decide +kernel, rfl, by decide +kernel, by decide +kernel⟩
theorem sc_is_mark : FnScope N_is_mark ["thing"] (defScope s_is_mark) := ⟨rfl, rfl, rfl, by decide +kernel, rfl, by decide +kernel, by decide +kernel⟩
theorem sc_check_mark : FnScope N_check_mark ["mark"] (defScope s_check_mark) := ⟨rfl, rfl, rfl, by decide +kernel, rfl, by decide +kernel, by decide +kernel⟩
theorem sc_year_days : FnScope N_year_days ["year"] (defScope s_year_days) := ⟨rfl, rfl, rfl, by decide +kernel, rfl, by decide +kernel, by decide +kernel⟩
theorem sc_mark_of : FnScope N_mark_of ["number"] (defScope s_mark_of) := ⟨rfl, rfl, rfl, by decide +kernel, rfl, by decide +kernel, by decide +kernel⟩
theorem sc_turned_marks : FnScope N_turned_marks ["mark"] (defScope s_turned_marks) := ⟨rfl, rfl, rfl, by decide +kernel, rfl, by decide +kernel, by decide +kernel⟩
theorem sc_steps_between : FnScope N_steps_between ["one", "other"] (defScope s_steps_between) := ⟨rfl, rfl, rfl, by decide +kernel, rfl, by decide +kernel, by decide +kernel⟩
theorem sc_fewest_turns : FnScope N_fewest_turns ["mark", "other"] (defScope s_fewest_turns) := ⟨rfl, rfl, rfl, by decide +kernel, rfl, by decide +kernel, by decide +kernel⟩
theorem sc_worn : FnScope N_worn ["mark", "places"] (defScope s_worn) := ⟨rfl, rfl, rfl, by decide +kernel, rfl, by decide +kernel, by decide +kernel⟩
theorem sc__law_hand : FnScope N__law_hand ["script"] (defScope s__law_hand) := ⟨rfl, rfl, rfl, by decide +kernel, rfl, by decide +kernel, by decide +kernel⟩
theorem sc__law_draw : FnScope N__law_draw ["hand", "many"] (defScope s__law_draw) := ⟨rfl, rfl, rfl, by decide +kernel, rfl, by decide +kernel, by decide +kernel⟩
theorem sc__law_any : FnScope N__law_any ["hand", "some"] (defScope s__law_any) := ⟨rfl, rfl, rfl, by decide +kernel, rfl, by decide +kernel, by decide +kernel⟩
theorem sc__law_is_mark : FnScope N__law_is_mark ["thing"] (defScope s__law_is_mark) := ⟨rfl, rfl, rfl, by decide +kernel, rfl, by decide +kernel, by decide +kernel⟩
theorem sc__law_marks : FnScope N__law_marks ["hand"] (defScope s__law_marks) := ⟨rfl, rfl, rfl, by decide +kernel, rfl, by decide +kernel, by decide +kernel⟩
theorem sc__law_turned : FnScope N__law_turned ["mark"] (defScope s__law_turned) := ⟨rfl, rfl, rfl, by decide +kernel, rfl, by decide +kernel, by decide +kernel⟩
theorem sc__law_steps : FnScope N__law_steps ["mark", "other"] (defScope s__law_steps) := ⟨rfl, rfl, rfl, by decide +kernel, rfl, by decide +kernel, by decide +kernel⟩
theorem sc__law_worn : FnScope N__law_worn ["mark", "places"] (defScope s__law_worn) := ⟨rfl, rfl, rfl, by decide +kernel, rfl, by decide +kernel, by decide +kernel⟩
theorem sc__law_mark_right : FnScope N__law_mark_right ["hand", "mark"] (defScope s__law_mark_right) := ⟨rfl, rfl, rfl, by decide +kernel, rfl, by decide +kernel, by decide +kernel⟩
theorem sc__law_word : FnScope N__law_word ["call"] (defScope s__law_word) := ⟨rfl, rfl, rfl, by decide +kernel, rfl, by decide +kernel, by decide +kernel⟩
theorem sc__law_refused_right : FnScope N__law_refused_right ["hand", "mark"] (defScope s__law_refused_right) := ⟨rfl, rfl, rfl, by decide +kernel, rfl, by decide +kernel, by decide +kernel⟩
theorem sc_law : FnScope N_law ["script"] (defScope s_law) := ⟨rfl, rfl, rfl, by decide +kernel, rfl, by decide +kernel, by decide +kernel⟩
structure Ads where
  a_PostFault : Addr
  a_BadMark : Addr
  a_BadPlaces : Addr
  a_NoNumber : Addr
  a_is_integer : Addr
  a_is_within : Addr
  a_are_below : Addr
  a_is_row : Addr
  a_are_digits : Addr
  a_month_length : Addr
  a_parts_of : Addr
  a_are_mark : Addr
  a_is_mark : Addr
  a_check_mark : Addr
  a_year_days : Addr
  a_mark_of : Addr
  a_turned_marks : Addr
  a_steps_between : Addr
  a_fewest_turns : Addr
  a_worn : Addr
  a__law_hand : Addr
  a__law_draw : Addr
  a__law_any : Addr
  a__law_is_mark : Addr
  a__law_marks : Addr
  a__law_turned : Addr
  a__law_steps : Addr
  a__law_worn : Addr
  a__law_mark_right : Addr
  a__law_word : Addr
  a__law_refused_right : Addr
  a_law : Addr
  d_is_integer : FuncData
  d_is_within : FuncData
  d_are_below : FuncData
  d_is_row : FuncData
  d_are_digits : FuncData
  d_month_length : FuncData
  d_parts_of : FuncData
  d_are_mark : FuncData
  d_is_mark : FuncData
  d_check_mark : FuncData
  d_year_days : FuncData
  d_mark_of : FuncData
  d_turned_marks : FuncData
  d_steps_between : FuncData
  d_fewest_turns : FuncData
  d_worn : FuncData
  d__law_hand : FuncData
  d__law_draw : FuncData
  d__law_any : FuncData
  d__law_is_mark : FuncData
  d__law_marks : FuncData
  d__law_turned : FuncData
  d__law_steps : FuncData
  d__law_worn : FuncData
  d__law_mark_right : FuncData
  d__law_word : FuncData
  d__law_refused_right : FuncData
  d_law : FuncData
  c__law_refused_right : Addr
  t__law_refused_right : Addr
/-- what the written part says -/
structure Tie (K : PySem.W.Frag) (mg : Str → Option Value) (κ : Ads) : Prop where
  n_isinstance : mg "isinstance" = none
  n_int : mg "int" = none
  n_bool : mg "bool" = none
  n_str : mg "str" = none
  n_len : mg "len" = none
  n_all : mg "all" = none
  n_abs : mg "abs" = none
  n_min : mg "min" = none
  n_zip : mg "zip" = none
  n_ValueError : mg "ValueError" = none
  n_tuple : mg "tuple" = none
  n_sorted : mg "sorted" = none
  n_set : mg "set" = none
  n_sum : mg "sum" = none
  n_range : mg "range" = none
  c_LENGTHS : TupC K mg "LENGTHS" [.int 31, .int 28, .int 31, .int 30, .int 31, .int 30, .int 31, .int 31, .int 30, .int 31, .int 30, .int 31]
  c_YEARS : ∃ t, mg "YEARS" = some (.int 100 t)
  c_WHEEL : ∃ t, mg "WHEEL" = some (.int 10 t)
  c_MOST_WORN : ∃ t, mg "MOST_WORN" = some (.int 3 t)
  g_PostFault : mg "PostFault" = some (.ref (κ.a_PostFault))
  e_BadMark : ErrC K mg "BadMark" (κ.a_BadMark)
  e_BadPlaces : ErrC K mg "BadPlaces" (κ.a_BadPlaces)
  e_NoNumber : ErrC K mg "NoNumber" (κ.a_NoNumber)
  x_BadMark : ExcC K (κ.a_BadMark)
  m_BadMark : PySem.W.exmOne K (.ref (κ.a_BadMark)) (.ref (κ.a_PostFault)) = some true
  q_BadMark_BadMark : PySem.W.kitOne K (.ref (κ.a_BadMark)) (.ref (κ.a_BadMark)) = some true
  q_BadMark_BadPlaces : PySem.W.kitOne K (.ref (κ.a_BadMark)) (.ref (κ.a_BadPlaces)) = some false
  q_BadMark_ValueError : PySem.W.kitOne K (.ref (κ.a_BadMark)) (.type "ValueError") = some true
  x_BadPlaces : ExcC K (κ.a_BadPlaces)
  m_BadPlaces : PySem.W.exmOne K (.ref (κ.a_BadPlaces)) (.ref (κ.a_PostFault)) = some true
  q_BadPlaces_BadMark : PySem.W.kitOne K (.ref (κ.a_BadPlaces)) (.ref (κ.a_BadMark)) = some false
  q_BadPlaces_BadPlaces : PySem.W.kitOne K (.ref (κ.a_BadPlaces)) (.ref (κ.a_BadPlaces)) = some true
  q_BadPlaces_ValueError : PySem.W.kitOne K (.ref (κ.a_BadPlaces)) (.type "ValueError") = some true
  x_NoNumber : ExcC K (κ.a_NoNumber)
  m_NoNumber : PySem.W.exmOne K (.ref (κ.a_NoNumber)) (.ref (κ.a_PostFault)) = some true
  q_NoNumber_BadMark : PySem.W.kitOne K (.ref (κ.a_NoNumber)) (.ref (κ.a_BadMark)) = some false
  q_NoNumber_BadPlaces : PySem.W.kitOne K (.ref (κ.a_NoNumber)) (.ref (κ.a_BadPlaces)) = some false
  q_NoNumber_ValueError : PySem.W.kitOne K (.ref (κ.a_NoNumber)) (.type "ValueError") = some true
  g_is_integer : mg "is_integer" = some (.ref (κ.a_is_integer))
  f_is_integer : Fun K "is_integer" "is_integer" s_is_integer (κ.a_is_integer) (κ.d_is_integer)
  b_is_integer : Binds K (κ.d_is_integer) ["thing"] []
  g_is_within : mg "is_within" = some (.ref (κ.a_is_within))
  f_is_within : Fun K "is_within" "is_within" s_is_within (κ.a_is_within) (κ.d_is_within)
  b_is_within : Binds K (κ.d_is_within) ["thing", "low", "high"] []
  g_are_below : mg "are_below" = some (.ref (κ.a_are_below))
  f_are_below : Fun K "are_below" "are_below" s_are_below (κ.a_are_below) (κ.d_are_below)
  b_are_below : Binds K (κ.d_are_below) ["thing", "many"] []
  g_is_row : mg "is_row" = some (.ref (κ.a_is_row))
  f_is_row : Fun K "is_row" "is_row" s_is_row (κ.a_is_row) (κ.d_is_row)
  b_is_row : Binds K (κ.d_is_row) ["thing", "many"] []
  g_are_digits : mg "are_digits" = some (.ref (κ.a_are_digits))
  f_are_digits : Fun K "are_digits" "are_digits" s_are_digits (κ.a_are_digits) (κ.d_are_digits)
  b_are_digits : Binds K (κ.d_are_digits) ["thing", "least", "most"] []
  g_month_length : mg "month_length" = some (.ref (κ.a_month_length))
  f_month_length : Fun K "month_length" "month_length" s_month_length (κ.a_month_length) (κ.d_month_length)
  b_month_length : Binds K (κ.d_month_length) ["month", "year"] []
  g_parts_of : mg "parts_of" = some (.ref (κ.a_parts_of))
  f_parts_of : Fun K "parts_of" "parts_of" s_parts_of (κ.a_parts_of) (κ.d_parts_of)
  b_parts_of : Binds K (κ.d_parts_of) ["text"] []
  g_are_mark : mg "are_mark" = some (.ref (κ.a_are_mark))
  f_are_mark : Fun K "are_mark" "are_mark" s_are_mark (κ.a_are_mark) (κ.d_are_mark)
  b_are_mark : Binds K (κ.d_are_mark) ["thing"] []
  g_is_mark : mg "is_mark" = some (.ref (κ.a_is_mark))
  f_is_mark : Fun K "is_mark" "is_mark" s_is_mark (κ.a_is_mark) (κ.d_is_mark)
  b_is_mark : Binds K (κ.d_is_mark) ["thing"] []
  g_check_mark : mg "check_mark" = some (.ref (κ.a_check_mark))
  f_check_mark : Fun K "check_mark" "check_mark" s_check_mark (κ.a_check_mark) (κ.d_check_mark)
  b_check_mark : Binds K (κ.d_check_mark) ["mark"] []
  g_year_days : mg "year_days" = some (.ref (κ.a_year_days))
  f_year_days : Fun K "year_days" "year_days" s_year_days (κ.a_year_days) (κ.d_year_days)
  b_year_days : Binds K (κ.d_year_days) ["year"] []
  g_mark_of : mg "mark_of" = some (.ref (κ.a_mark_of))
  f_mark_of : Fun K "mark_of" "mark_of" s_mark_of (κ.a_mark_of) (κ.d_mark_of)
  b_mark_of : Binds K (κ.d_mark_of) ["number"] []
  g_turned_marks : mg "turned_marks" = some (.ref (κ.a_turned_marks))
  f_turned_marks : Fun K "turned_marks" "turned_marks" s_turned_marks (κ.a_turned_marks) (κ.d_turned_marks)
  b_turned_marks : Binds K (κ.d_turned_marks) ["mark"] []
  g_steps_between : mg "steps_between" = some (.ref (κ.a_steps_between))
  f_steps_between : Fun K "steps_between" "steps_between" s_steps_between (κ.a_steps_between) (κ.d_steps_between)
  b_steps_between : Binds K (κ.d_steps_between) ["one", "other"] []
  g_fewest_turns : mg "fewest_turns" = some (.ref (κ.a_fewest_turns))
  f_fewest_turns : Fun K "fewest_turns" "fewest_turns" s_fewest_turns (κ.a_fewest_turns) (κ.d_fewest_turns)
  b_fewest_turns : Binds K (κ.d_fewest_turns) ["mark", "other"] []
  g_worn : mg "worn" = some (.ref (κ.a_worn))
  f_worn : Fun K "worn" "worn" s_worn (κ.a_worn) (κ.d_worn)
  b_worn : Binds K (κ.d_worn) ["mark", "places"] []
  g__law_hand : mg "_law_hand" = some (.ref (κ.a__law_hand))
  f__law_hand : Fun K "_law_hand" "_law_hand" s__law_hand (κ.a__law_hand) (κ.d__law_hand)
  b__law_hand : Binds K (κ.d__law_hand) ["script"] []
  g__law_draw : mg "_law_draw" = some (.ref (κ.a__law_draw))
  f__law_draw : Fun K "_law_draw" "_law_draw" s__law_draw (κ.a__law_draw) (κ.d__law_draw)
  b__law_draw : Binds K (κ.d__law_draw) ["hand", "many"] []
  g__law_any : mg "_law_any" = some (.ref (κ.a__law_any))
  f__law_any : Fun K "_law_any" "_law_any" s__law_any (κ.a__law_any) (κ.d__law_any)
  b__law_any : Binds K (κ.d__law_any) ["hand", "some"] []
  g__law_is_mark : mg "_law_is_mark" = some (.ref (κ.a__law_is_mark))
  f__law_is_mark : Fun K "_law_is_mark" "_law_is_mark" s__law_is_mark (κ.a__law_is_mark) (κ.d__law_is_mark)
  b__law_is_mark : Binds K (κ.d__law_is_mark) ["thing"] []
  g__law_marks : mg "_law_marks" = some (.ref (κ.a__law_marks))
  f__law_marks : Fun K "_law_marks" "_law_marks" s__law_marks (κ.a__law_marks) (κ.d__law_marks)
  b__law_marks : Binds K (κ.d__law_marks) ["hand"] []
  g__law_turned : mg "_law_turned" = some (.ref (κ.a__law_turned))
  f__law_turned : Fun K "_law_turned" "_law_turned" s__law_turned (κ.a__law_turned) (κ.d__law_turned)
  b__law_turned : Binds K (κ.d__law_turned) ["mark"] []
  g__law_steps : mg "_law_steps" = some (.ref (κ.a__law_steps))
  f__law_steps : Fun K "_law_steps" "_law_steps" s__law_steps (κ.a__law_steps) (κ.d__law_steps)
  b__law_steps : Binds K (κ.d__law_steps) ["mark", "other"] []
  g__law_worn : mg "_law_worn" = some (.ref (κ.a__law_worn))
  f__law_worn : Fun K "_law_worn" "_law_worn" s__law_worn (κ.a__law_worn) (κ.d__law_worn)
  b__law_worn : Binds K (κ.d__law_worn) ["mark", "places"] []
  g__law_mark_right : mg "_law_mark_right" = some (.ref (κ.a__law_mark_right))
  f__law_mark_right : Fun K "_law_mark_right" "_law_mark_right" s__law_mark_right (κ.a__law_mark_right) (κ.d__law_mark_right)
  b__law_mark_right : Binds K (κ.d__law_mark_right) ["hand", "mark"] []
  g__law_word : mg "_law_word" = some (.ref (κ.a__law_word))
  f__law_word : Fun K "_law_word" "_law_word" s__law_word (κ.a__law_word) (κ.d__law_word)
  b__law_word : Binds K (κ.d__law_word) ["call"] []
  g__law_refused_right : mg "_law_refused_right" = some (.ref (κ.a__law_refused_right))
  f__law_refused_right : Fun K "_law_refused_right" "_law_refused_right" s__law_refused_right (κ.a__law_refused_right) (κ.d__law_refused_right)
  b__law_refused_right : Binds K (κ.d__law_refused_right) ["hand", "mark"] []
  g_law : mg "law" = some (.ref (κ.a_law))
  f_law : Fun K "law" "law" s_law (κ.a_law) (κ.d_law)
  b_law : Binds K (κ.d_law) ["script"] []
  l__law_refused_right : ∃ (oc : Value) (od : Option Addr) (kV doc pm : Value) (an : Option Addr) (ct : Value) (osl : Array (Option Value)), κ.d__law_refused_right = PySem.W.fnOf "_law_refused_right" "_law_refused_right" (defArgs s__law_refused_right) (defBody s__law_refused_right) (defScope s__law_refused_right) .none kV doc pm an (.ref (κ.c__law_refused_right)) ct ∧ K.lookup (κ.a__law_refused_right) = some ⟨oc, od, .func (κ.d__law_refused_right), osl⟩ ∧ PySem.W.codeIn K (.ref (κ.c__law_refused_right)) "_law_refused_right" = true
structure Lm (K : PySem.W.Frag) (mg : Str → Option Value) (base : Heap) (T : Tb) (κ : Ads) : Prop where
  triv : True
  t__law_refused_right : TabB base mg (κ.c__law_refused_right) (κ.t__law_refused_right)
  i__law_refused_right : (κ.t__law_refused_right, (("_law_refused_right" : Str) ++ ".<locals>.") ++ "<lambda>") ∈ T.T
  u__law_refused_right : ∀ p ∈ T.T, p.1 = κ.t__law_refused_right → p.2 = (("_law_refused_right" : Str) ++ ".<locals>.") ++ "<lambda>"
section
variable {P : Program} {w : World} {K : PySem.W.Frag} {mg : Str → Option Value} {base : Heap} {T : Tb} {κ : Ads}
def kcls : List Str := ["BadMark", "BadPlaces", "NoNumber"]
def pfX (y : Ex) : Bool := kcls.contains y.cls && y.args.isEmpty
theorem pf_args {y : Ex} (h : pfX y = true) : y.args = [] := by
  unfold pfX at h
  rw [Bool.and_eq_true] at h
  simpa using h.2
theorem pf_cls {y : Ex} (h : pfX y = true) : y.cls = "BadMark" ∨ y.cls = "BadPlaces" ∨ y.cls = "NoNumber" := by
  unfold pfX kcls at h
  rw [Bool.and_eq_true] at h
  simpa using h.1
def isC (c t : Str) : Bool := c == t || t == "ValueError" || t == "PostFault"
theorem k_exc (Γ : Tie K mg κ) {y : Ex} {D : Addr} (hm : mg y.cls = some (.ref D)) (hp : pfX y = true) : ExcC K D := by
  rcases pf_cls hp with h | h | h
  · rw [h, Γ.e_BadMark.g] at hm; cases hm; exact Γ.x_BadMark
  · rw [h, Γ.e_BadPlaces.g] at hm; cases hm; exact Γ.x_BadPlaces
  · rw [h, Γ.e_NoNumber.g] at hm; cases hm; exact Γ.x_NoNumber
theorem k_exm (Γ : Tie K mg κ) {y : Ex} {D : Addr} (hm : mg y.cls = some (.ref D)) (hp : pfX y = true) : PySem.W.exmOne K (.ref D) (.ref (κ.a_PostFault)) = some true := by
  rcases pf_cls hp with h | h | h
  · rw [h, Γ.e_BadMark.g] at hm; cases hm; exact Γ.m_BadMark
  · rw [h, Γ.e_BadPlaces.g] at hm; cases hm; exact Γ.m_BadPlaces
  · rw [h, Γ.e_NoNumber.g] at hm; cases hm; exact Γ.m_NoNumber
theorem k_BadMark (Γ : Tie K mg κ) {y : Ex} {D : Addr} (hm : mg y.cls = some (.ref D)) (hp : pfX y = true) : PySem.W.kitOne K (.ref D) (.ref (κ.a_BadMark)) = some (isC y.cls "BadMark") := by
  rcases pf_cls hp with h | h | h
  · rw [h, Γ.e_BadMark.g] at hm; cases hm; rw [h]; exact Γ.q_BadMark_BadMark
  · rw [h, Γ.e_BadPlaces.g] at hm; cases hm; rw [h]; exact Γ.q_BadPlaces_BadMark
  · rw [h, Γ.e_NoNumber.g] at hm; cases hm; rw [h]; exact Γ.q_NoNumber_BadMark
theorem k_BadPlaces (Γ : Tie K mg κ) {y : Ex} {D : Addr} (hm : mg y.cls = some (.ref D)) (hp : pfX y = true) : PySem.W.kitOne K (.ref D) (.ref (κ.a_BadPlaces)) = some (isC y.cls "BadPlaces") := by
  rcases pf_cls hp with h | h | h
  · rw [h, Γ.e_BadMark.g] at hm; cases hm; rw [h]; exact Γ.q_BadMark_BadPlaces
  · rw [h, Γ.e_BadPlaces.g] at hm; cases hm; rw [h]; exact Γ.q_BadPlaces_BadPlaces
  · rw [h, Γ.e_NoNumber.g] at hm; cases hm; rw [h]; exact Γ.q_NoNumber_BadPlaces
theorem k_ValueError (Γ : Tie K mg κ) {y : Ex} {D : Addr} (hm : mg y.cls = some (.ref D)) (hp : pfX y = true) : PySem.W.kitOne K (.ref D) (.type "ValueError") = some (isC y.cls "ValueError") := by
  rcases pf_cls hp with h | h | h
  · rw [h, Γ.e_BadMark.g] at hm; cases hm; rw [h]; exact Γ.q_BadMark_ValueError
  · rw [h, Γ.e_BadPlaces.g] at hm; cases hm; rw [h]; exact Γ.q_BadPlaces_ValueError
  · rw [h, Γ.e_NoNumber.g] at hm; cases hm; rw [h]; exact Γ.q_NoNumber_ValueError
def m_is_integer : Ms := mRet (mAndV (mOp1 (oIsi "int") (mVar 0)) (mNotV (mOp1 (oIsi "bool") (mVar 0))))
def mf_is_integer : Mf := mkF [false] 1 m_is_integer
theorem ok_is_integer (Γ : Tie K mg κ) (Θ : Lm K mg base T κ) : FnG P w K mg base false 1 (κ.a_is_integer) (κ.d_is_integer) ["thing"] (spM ⟨K, mg, T.T, T.rv⟩ [false] mf_is_integer) := 
  fnG_of (N := N_is_integer) (m := m_is_integer) Γ.f_is_integer sc_is_integer rfl fun cdv_ A_ o_ s_ H_ E_ hr A B =>
    dss_one (ds_ret (de_and (de_isi rfl Γ.n_isinstance rfl Γ.n_int (by decide +kernel) (de_var (i := 0) rfl (by first | exact Or.inl rfl | exact Or.inr (Or.inl rfl) | exact Or.inr (Or.inr rfl)))) (de_one (de_not (de_isi rfl Γ.n_isinstance rfl Γ.n_bool (by decide +kernel) (de_var (i := 0) rfl (by first | exact Or.inl rfl | exact Or.inr (Or.inl rfl) | exact Or.inr (Or.inr rfl))))))))
def q_are_digits_1 : M (List D) := mComp (mOp1 oItems (mVar 0)) [3] (gN 3) (mTrue) (mBin oIn (mVar 3) (mC (.str "0123456789")))
def m_are_digits : Ms := mRet (mAndV (mOp1 (oIsi "str") (mVar 0)) (mAndV (mChain oLe oLe (mVar 1) (mOp1 oLen (mVar 0)) (mVar 2)) (mOp1 oAll (mQ (mL (q_are_digits_1))))))
def mf_are_digits : Mf := mkF [false, false, false] 4 m_are_digits
theorem ok_are_digits (Γ : Tie K mg κ) (Θ : Lm K mg base T κ) : FnG P w K mg base false 1 (κ.a_are_digits) (κ.d_are_digits) ["thing", "least", "most"] (spM ⟨K, mg, T.T, T.rv⟩ [false, false, false] mf_are_digits) := 
  fnG_of (N := N_are_digits) (m := m_are_digits) Γ.f_are_digits sc_are_digits rfl fun cdv_ A_ o_ s_ H_ E_ hr A B =>
    dss_one (ds_ret (de_and (de_isi rfl Γ.n_isinstance rfl Γ.n_str (by decide +kernel) (de_var (i := 0) rfl (by first | exact Or.inl rfl | exact Or.inr (Or.inl rfl) | exact Or.inr (Or.inr rfl)))) (de_and (de_chain (stays_D _) (stays_D _) (od_le) (od_le) (de_var (i := 1) rfl (by first | exact Or.inl rfl | exact Or.inr (Or.inl rfl) | exact Or.inr (Or.inr rfl))) (de_callB (cd_len) rfl Γ.n_len (by decide +kernel) (de_var (i := 0) rfl (by first | exact Or.inl rfl | exact Or.inr (Or.inl rfl) | exact Or.inr (Or.inr rfl)))) (de_var (i := 2) rfl (by first | exact Or.inl rfl | exact Or.inr (Or.inl rfl) | exact Or.inr (Or.inr rfl)))) (de_one (de_callB (cd_all rfl) rfl Γ.n_all (by decide +kernel) (dq_of (de_ofL (dl_lc (own := [("sign", 3)]) newL_fz A rfl (DI.toJ (di_any (de_var (i := 0) rfl (by first | exact Or.inl rfl | exact Or.inr (Or.inl rfl) | exact Or.inr (Or.inr rfl))))) (show BlkOk N_are_digits (defScope s_are_digits) _ [("sign", 3)] from ⟨rfl, by decide +kernel, by decide +kernel, by decide +kernel, by decide +kernel⟩) (gb_name (i := 3) A.nd rfl (fun _ _ _ _ _ => ⟨(by first | exact Or.inl rfl | exact Or.inr rfl), (by first | exact Or.inl rfl | exact Or.inr rfl)⟩)) (by decide) (fun s_ H_ C_ cl_ fp_ => dts_nil) (fun s_ H_ C_ cl_ fp_ => de_cmp (stays_D _) (od_in A.un) (de_var (i := 3) rfl (by first | exact Or.inl rfl | exact Or.inr (Or.inl rfl) | exact Or.inr (Or.inr rfl))) (de_str))))))))))
def m_month_length : Ms := mRet (mBin oAdd (mBin oIx (mC (.tuple [.int 31, .int 28, .int 31, .int 30, .int 31, .int 30, .int 31, .int 31, .int 30, .int 31, .int 30, .int 31])) (mBin oSub (mVar 0) (mC (.int 1)))) (mIf (mAnd (mTest (mBin oEq (mVar 0) (mC (.int 2)))) (mTest (mBin oEq (mBin oMod (mVar 1) (mC (.int 4))) (mC (.int 0))))) (mC (.int 1)) (mC (.int 0))))
def mf_month_length : Mf := mkF [false, false] 2 m_month_length
theorem ok_month_length (Γ : Tie K mg κ) (Θ : Lm K mg base T κ) : FnG P w K mg base false 1 (κ.a_month_length) (κ.d_month_length) ["month", "year"] (spM ⟨K, mg, T.T, T.rv⟩ [false, false] mf_month_length) := 
  fnG_of (N := N_month_length) (m := m_month_length) Γ.f_month_length sc_month_length rfl fun cdv_ A_ o_ s_ H_ E_ hr A B =>
    dss_one (ds_ret (de_op (stays_D _) od_add (de_ix (stays_D _) xd_ix (de_glt rfl Γ.c_LENGTHS) (de_op (stays_D _) od_sub (de_var (i := 0) rfl (by first | exact Or.inl rfl | exact Or.inr (Or.inl rfl) | exact Or.inr (Or.inr rfl))) (de_int))) (de_ifExp (dt_w (dw_and (dt_cmp (stays_D _) (od_eq A.un) (de_var (i := 0) rfl (by first | exact Or.inl rfl | exact Or.inr (Or.inl rfl) | exact Or.inr (Or.inr rfl))) (de_int)) (dw_and1 (dt_cmp (stays_D _) (od_eq A.un) (de_op (stays_D _) od_mod (de_var (i := 1) rfl (by first | exact Or.inl rfl | exact Or.inr (Or.inl rfl) | exact Or.inr (Or.inr rfl))) (de_int)) (de_int))))) (de_int) (de_int))))
def m_parts_of : Ms := mRet (mTup (mCons (mOp1 oInt (mSl oSl (mVar 0) (mP0) (mP (mC (.int 2))))) (mCons (mOp1 oInt (mSl oSl (mVar 0) (mP (mC (.int 2))) (mP (mC (.int 4))))) (mCons (mOp1 oInt (mSl oSl (mVar 0) (mP (mC (.int 4))) (mP0))) (mNil)))))
def mf_parts_of : Mf := mkF [false] 1 m_parts_of
theorem ok_parts_of (Γ : Tie K mg κ) (Θ : Lm K mg base T κ) : FnG P w K mg base false 1 (κ.a_parts_of) (κ.d_parts_of) ["text"] (spM ⟨K, mg, T.T, T.rv⟩ [false] mf_parts_of) := 
  fnG_of (N := N_parts_of) (m := m_parts_of) Γ.f_parts_of sc_parts_of rfl fun cdv_ A_ o_ s_ H_ E_ hr A B =>
    dss_one (ds_ret (de_tup (ms := [false, false, false]) (da_cons (de_callT (cd_int) rfl Γ.n_int (by decide +kernel) (de_slice (stays_D _) sd_any (de_var (i := 0) rfl (by first | exact Or.inl rfl | exact Or.inr (Or.inl rfl) | exact Or.inr (Or.inr rfl))) (do_none) (do_some (de_int)))) (da_cons (de_callT (cd_int) rfl Γ.n_int (by decide +kernel) (de_slice (stays_D _) sd_any (de_var (i := 0) rfl (by first | exact Or.inl rfl | exact Or.inr (Or.inl rfl) | exact Or.inr (Or.inr rfl))) (do_some (de_int)) (do_some (de_int)))) (da_cons (de_callT (cd_int) rfl Γ.n_int (by decide +kernel) (de_slice (stays_D _) sd_any (de_var (i := 0) rfl (by first | exact Or.inl rfl | exact Or.inr (Or.inl rfl) | exact Or.inr (Or.inr rfl))) (do_some (de_int)) (do_none))) (da_nil))))))
def m_year_days : Ms := mRet (mIf (mTest (mBin oEq (mBin oMod (mVar 0) (mC (.int 4))) (mC (.int 0)))) (mC (.int 366)) (mC (.int 365)))
def mf_year_days : Mf := mkF [false] 1 m_year_days
theorem ok_year_days (Γ : Tie K mg κ) (Θ : Lm K mg base T κ) : FnG P w K mg base false 1 (κ.a_year_days) (κ.d_year_days) ["year"] (spM ⟨K, mg, T.T, T.rv⟩ [false] mf_year_days) := 
  fnG_of (N := N_year_days) (m := m_year_days) Γ.f_year_days sc_year_days rfl fun cdv_ A_ o_ s_ H_ E_ hr A B =>
    dss_one (ds_ret (de_ifExp (dt_cmp (stays_D _) (od_eq A.un) (de_op (stays_D _) od_mod (de_var (i := 0) rfl (by first | exact Or.inl rfl | exact Or.inr (Or.inl rfl) | exact Or.inr (Or.inr rfl))) (de_int)) (de_int)) (de_int) (de_int)))
def m_steps_between : Ms := mSeq (mSet 2 (mOp1 oAbs (mBin oSub (mOp1 oInt (mVar 0)) (mOp1 oInt (mVar 1)))))
    (mRet (mBin oMin2 (mVar 2) (mBin oSub (mC (.int 10)) (mVar 2))))
def mf_steps_between : Mf := mkF [false, false] 3 m_steps_between
theorem ok_steps_between (Γ : Tie K mg κ) (Θ : Lm K mg base T κ) : FnG P w K mg base false 1 (κ.a_steps_between) (κ.d_steps_between) ["one", "other"] (spM ⟨K, mg, T.T, T.rv⟩ [false, false] mf_steps_between) := 
  fnG_of (N := N_steps_between) (m := m_steps_between) Γ.f_steps_between sc_steps_between rfl fun cdv_ A_ o_ s_ H_ E_ hr A B =>
    dss_cons (ds_set (i := 2) A rfl (by first | exact Or.inl rfl | exact Or.inr rfl) (de_callB (cd_abs) rfl Γ.n_abs (by decide +kernel) (de_op (stays_D _) od_sub (de_callT (cd_int) rfl Γ.n_int (by decide +kernel) (de_var (i := 0) rfl (by first | exact Or.inl rfl | exact Or.inr (Or.inl rfl) | exact Or.inr (Or.inr rfl)))) (de_callT (cd_int) rfl Γ.n_int (by decide +kernel) (de_var (i := 1) rfl (by first | exact Or.inl rfl | exact Or.inr (Or.inl rfl) | exact Or.inr (Or.inr rfl)))))))
    (dss_one (ds_ret (de_callB2 (stays_D _) (cd_min2 rfl) rfl Γ.n_min (by decide +kernel) (de_var (i := 2) rfl (by first | exact Or.inl rfl | exact Or.inr (Or.inl rfl) | exact Or.inr (Or.inr rfl))) (de_op (stays_D _) od_sub (de_gli rfl Γ.c_WHEEL) (de_var (i := 2) rfl (by first | exact Or.inl rfl | exact Or.inr (Or.inl rfl) | exact Or.inr (Or.inr rfl)))))))
def q__law_hand_1 : M (List D) := mComp (mOp1 oItems (mSl oSl (mVar 0) (mP0) (mP (mC (.int 63))))) [2] (gN 2) (mTrue) (mBin oMod (mOp1 oInt (mOp1 oAbs (mOp1 oInt (mVar 2)))) (mBin oPow (mC (.int 10)) (mC (.int 36))))
def m__law_hand : Ms := mSeq (mSet 1 (mL (q__law_hand_1)))
    (mRet (mMu (mLst (mCons (mVar 1) (mCons (mC (.int 0)) (mCons (mC (.int 0)) (mCons (mBin oAdd (mC (.int 2099)) (mBin oMul (mC (.int 5)) (mOp1 oLen (mVar 1)))) (mCons (mC (.int 0)) (mNil)))))))))
def mf__law_hand : Mf := mkF [false] 3 m__law_hand
theorem ok__law_hand (Γ : Tie K mg κ) (Θ : Lm K mg base T κ) : FnG P w K mg base false 1 (κ.a__law_hand) (κ.d__law_hand) ["script"] (spM ⟨K, mg, T.T, T.rv⟩ [false] mf__law_hand) := 
  fnG_of (N := N__law_hand) (m := m__law_hand) Γ.f__law_hand sc__law_hand rfl fun cdv_ A_ o_ s_ H_ E_ hr A B =>
    dss_cons (ds_setLc (i := 1) (own := [("cell", 2)]) A rfl rfl rfl rfl (DI.toJ (di_any (de_slice (stays_D _) sd_any (de_var (i := 0) rfl (by first | exact Or.inl rfl | exact Or.inr (Or.inl rfl) | exact Or.inr (Or.inr rfl))) (do_none) (do_some (de_int))))) (show BlkOk N__law_hand (defScope s__law_hand) _ [("cell", 2)] from ⟨rfl, by decide +kernel, by decide +kernel, by decide +kernel, by decide +kernel⟩) (gb_name (i := 2) A.nd rfl (fun _ _ _ _ _ => ⟨(by first | exact Or.inl rfl | exact Or.inr rfl), (by first | exact Or.inl rfl | exact Or.inr rfl)⟩)) (by decide) (fun s_ H_ C_ cl_ fp_ => dts_nil) (fun s_ H_ C_ cl_ fp_ => de_op (stays_D _) od_mod (de_callT (cd_int) rfl Γ.n_int (by decide +kernel) (de_callB (cd_abs) rfl Γ.n_abs (by decide +kernel) (de_callT (cd_int) rfl Γ.n_int (by decide +kernel) (de_var (i := 2) rfl (by first | exact Or.inl rfl | exact Or.inr (Or.inl rfl) | exact Or.inr (Or.inr rfl)))))) (de_op (stays_D _) od_pow (de_int) (de_int))))
    (dss_one (ds_ret (de_mu (dl_lst (ms := [false, false, false, false, false]) newL_ow (da_cons (de_var (i := 1) rfl (by first | exact Or.inl rfl | exact Or.inr (Or.inl rfl) | exact Or.inr (Or.inr rfl))) (da_cons (de_int) (da_cons (de_int) (da_cons (de_op (stays_D _) od_add (de_int) (de_op (stays_D _) od_mul (de_int) (de_callB (cd_len) rfl Γ.n_len (by decide +kernel) (de_var (i := 1) rfl (by first | exact Or.inl rfl | exact Or.inr (Or.inl rfl) | exact Or.inr (Or.inr rfl)))))) (da_cons (de_int) (da_nil))))))))))
def m__law_draw : Ms := mSeq (mIfS (mAnd (mTest (mBin oEq (mBin oIx (mVar 0) (mC (.int 2))) (mC (.int 0)))) (mTest (mBin oLt (mBin oIx (mVar 0) (mC (.int 1))) (mOp1 oLen (mBin oIx (mVar 0) (mC (.int 0))))))) (mSeq (mSet 2 (mBin oIx (mBin oIx (mVar 0) (mC (.int 0))) (mBin oIx (mVar 0) (mC (.int 1)))))
    (mSeq (mStore 0 (mC (.int 1)) (mBin oAdd (mBin oIx (mVar 0) (mC (.int 1))) (mC (.int 1))))
    (mSeq (mStore 0 (mC (.int 3)) (mBin oMod (mOp1 oInt (mBin oAdd (mBin oAdd (mBin oMul (mBin oIx (mVar 0) (mC (.int 3))) (mC (.int 69621))) (mBin oMul (mVar 2) (mC (.int 40692)))) (mC (.int 37)))) (mC (.int 2147483629))))
    (mIfS (mTest (mBin oGe (mVar 2) (mBin oPow (mC (.int 10)) (mC (.int 18))))) (mStore 0 (mC (.int 2)) (mVar 2)) (mNext))))) (mNext))
    (mSeq (mIfS (mTest (mBin oGt (mBin oIx (mVar 0) (mC (.int 2))) (mC (.int 0)))) (mSeq (mSet 3 (mBin oMod (mOp1 oInt (mBin oIx (mVar 0) (mC (.int 2)))) (mVar 1)))
    (mSeq (mStore 0 (mC (.int 2)) (mBin oDiv (mBin oIx (mVar 0) (mC (.int 2))) (mVar 1)))
    (mRet (mVar 3)))) (mNext))
    (mSeq (mStore 0 (mC (.int 4)) (mBin oAdd (mBin oIx (mVar 0) (mC (.int 4))) (mC (.int 1))))
    (mSeq (mSet 4 (mBin oMod (mOp1 oInt (mBin oMul (mOp1 oInt (mBin oAdd (mBin oIx (mVar 0) (mC (.int 3))) (mBin oMul (mC (.int 7919)) (mBin oIx (mVar 0) (mC (.int 4)))))) (mC (.int 48271)))) (mC (.int 2147483647))))
    (mSeq (mSet 4 (mBin oMod (mOp1 oInt (mBin oMul (mVar 4) (mBin oAdd (mBin oDiv (mVar 4) (mC (.int 1009))) (mC (.int 69621))))) (mC (.int 2147483647))))
    (mSeq (mSet 4 (mBin oMod (mOp1 oInt (mBin oMul (mVar 4) (mBin oAdd (mBin oDiv (mVar 4) (mC (.int 2003))) (mC (.int 40014))))) (mC (.int 2147483563))))
    (mRet (mBin oMod (mOp1 oInt (mBin oDiv (mVar 4) (mC (.int 16)))) (mVar 1))))))))
def mf__law_draw : Mf := mkF [false, false] 5 m__law_draw
theorem ok__law_draw (Γ : Tie K mg κ) (Θ : Lm K mg base T κ) : FnG P w K mg base false 1 (κ.a__law_draw) (κ.d__law_draw) ["hand", "many"] (spM ⟨K, mg, T.T, T.rv⟩ [false, false] mf__law_draw) := 
  fnG_of (N := N__law_draw) (m := m__law_draw) Γ.f__law_draw sc__law_draw rfl fun cdv_ A_ o_ s_ H_ E_ hr A B =>
    dss_cons (ds_if (dt_w (dw_and (dt_cmp (stays_D _) (od_eq A.un) (de_ix (stays_D _) xd_ix (de_var (i := 0) rfl (by first | exact Or.inl rfl | exact Or.inr (Or.inl rfl) | exact Or.inr (Or.inr rfl))) (de_int)) (de_int)) (dw_and1 (dt_cmp (stays_D _) (od_lt) (de_ix (stays_D _) xd_ix (de_var (i := 0) rfl (by first | exact Or.inl rfl | exact Or.inr (Or.inl rfl) | exact Or.inr (Or.inr rfl))) (de_int)) (de_callB (cd_len) rfl Γ.n_len (by decide +kernel) (de_ix (stays_D _) xd_ix (de_var (i := 0) rfl (by first | exact Or.inl rfl | exact Or.inr (Or.inl rfl) | exact Or.inr (Or.inr rfl))) (de_int))))))) (dss_cons (ds_set (i := 2) A rfl (by first | exact Or.inl rfl | exact Or.inr rfl) (de_ix (stays_D _) xd_ix (de_ix (stays_D _) xd_ix (de_var (i := 0) rfl (by first | exact Or.inl rfl | exact Or.inr (Or.inl rfl) | exact Or.inr (Or.inr rfl))) (de_int)) (de_ix (stays_D _) xd_ix (de_var (i := 0) rfl (by first | exact Or.inl rfl | exact Or.inr (Or.inl rfl) | exact Or.inr (Or.inr rfl))) (de_int))))
    (dss_cons (ds_store (de_op (stays_D _) od_add (de_ix (stays_D _) xd_ix (de_var (i := 0) rfl (by first | exact Or.inl rfl | exact Or.inr (Or.inl rfl) | exact Or.inr (Or.inr rfl))) (de_int)) (de_int)) (de_int) (fun t h => pg_sub (pe_var (i := 0) rfl (by first | exact Or.inl rfl | exact Or.inr (Or.inl rfl) | exact Or.inr (Or.inr rfl))) h set_list (by intro _; rfl)))
    (dss_cons (ds_store (de_op (stays_D _) od_mod (de_callT (cd_int) rfl Γ.n_int (by decide +kernel) (de_op (stays_D _) od_add (de_op (stays_D _) od_add (de_op (stays_D _) od_mul (de_ix (stays_D _) xd_ix (de_var (i := 0) rfl (by first | exact Or.inl rfl | exact Or.inr (Or.inl rfl) | exact Or.inr (Or.inr rfl))) (de_int)) (de_int)) (de_op (stays_D _) od_mul (de_var (i := 2) rfl (by first | exact Or.inl rfl | exact Or.inr (Or.inl rfl) | exact Or.inr (Or.inr rfl))) (de_int))) (de_int))) (de_int)) (de_int) (fun t h => pg_sub (pe_var (i := 0) rfl (by first | exact Or.inl rfl | exact Or.inr (Or.inl rfl) | exact Or.inr (Or.inr rfl))) h set_list (by intro _; rfl)))
    (dss_one (ds_if (dt_cmp (stays_D _) (od_ge) (de_var (i := 2) rfl (by first | exact Or.inl rfl | exact Or.inr (Or.inl rfl) | exact Or.inr (Or.inr rfl))) (de_op (stays_D _) od_pow (de_int) (de_int))) (dss_one (ds_store (de_var (i := 2) rfl (by first | exact Or.inl rfl | exact Or.inr (Or.inl rfl) | exact Or.inr (Or.inr rfl))) (de_int) (fun t h => pg_sub (pe_var (i := 0) rfl (by first | exact Or.inl rfl | exact Or.inr (Or.inl rfl) | exact Or.inr (Or.inr rfl))) h set_list (by intro _; rfl)))) (dss_nil)))))) (dss_nil))
    (dss_cons (ds_if (dt_cmp (stays_D _) (od_gt) (de_ix (stays_D _) xd_ix (de_var (i := 0) rfl (by first | exact Or.inl rfl | exact Or.inr (Or.inl rfl) | exact Or.inr (Or.inr rfl))) (de_int)) (de_int)) (dss_cons (ds_set (i := 3) A rfl (by first | exact Or.inl rfl | exact Or.inr rfl) (de_op (stays_D _) od_mod (de_callT (cd_int) rfl Γ.n_int (by decide +kernel) (de_ix (stays_D _) xd_ix (de_var (i := 0) rfl (by first | exact Or.inl rfl | exact Or.inr (Or.inl rfl) | exact Or.inr (Or.inr rfl))) (de_int))) (de_var (i := 1) rfl (by first | exact Or.inl rfl | exact Or.inr (Or.inl rfl) | exact Or.inr (Or.inr rfl)))))
    (dss_cons (ds_store (de_op (stays_D _) od_div (de_ix (stays_D _) xd_ix (de_var (i := 0) rfl (by first | exact Or.inl rfl | exact Or.inr (Or.inl rfl) | exact Or.inr (Or.inr rfl))) (de_int)) (de_var (i := 1) rfl (by first | exact Or.inl rfl | exact Or.inr (Or.inl rfl) | exact Or.inr (Or.inr rfl)))) (de_int) (fun t h => pg_sub (pe_var (i := 0) rfl (by first | exact Or.inl rfl | exact Or.inr (Or.inl rfl) | exact Or.inr (Or.inr rfl))) h set_list (by intro _; rfl)))
    (dss_one (ds_ret (de_var (i := 3) rfl (by first | exact Or.inl rfl | exact Or.inr (Or.inl rfl) | exact Or.inr (Or.inr rfl))))))) (dss_nil))
    (dss_cons (ds_store (de_op (stays_D _) od_add (de_ix (stays_D _) xd_ix (de_var (i := 0) rfl (by first | exact Or.inl rfl | exact Or.inr (Or.inl rfl) | exact Or.inr (Or.inr rfl))) (de_int)) (de_int)) (de_int) (fun t h => pg_sub (pe_var (i := 0) rfl (by first | exact Or.inl rfl | exact Or.inr (Or.inl rfl) | exact Or.inr (Or.inr rfl))) h set_list (by intro _; rfl)))
    (dss_cons (ds_set (i := 4) A rfl (by first | exact Or.inl rfl | exact Or.inr rfl) (de_op (stays_D _) od_mod (de_callT (cd_int) rfl Γ.n_int (by decide +kernel) (de_op (stays_D _) od_mul (de_callT (cd_int) rfl Γ.n_int (by decide +kernel) (de_op (stays_D _) od_add (de_ix (stays_D _) xd_ix (de_var (i := 0) rfl (by first | exact Or.inl rfl | exact Or.inr (Or.inl rfl) | exact Or.inr (Or.inr rfl))) (de_int)) (de_op (stays_D _) od_mul (de_int) (de_ix (stays_D _) xd_ix (de_var (i := 0) rfl (by first | exact Or.inl rfl | exact Or.inr (Or.inl rfl) | exact Or.inr (Or.inr rfl))) (de_int))))) (de_int))) (de_int)))
    (dss_cons (ds_set (i := 4) A rfl (by first | exact Or.inl rfl | exact Or.inr rfl) (de_op (stays_D _) od_mod (de_callT (cd_int) rfl Γ.n_int (by decide +kernel) (de_op (stays_D _) od_mul (de_var (i := 4) rfl (by first | exact Or.inl rfl | exact Or.inr (Or.inl rfl) | exact Or.inr (Or.inr rfl))) (de_op (stays_D _) od_add (de_op (stays_D _) od_div (de_var (i := 4) rfl (by first | exact Or.inl rfl | exact Or.inr (Or.inl rfl) | exact Or.inr (Or.inr rfl))) (de_int)) (de_int)))) (de_int)))
    (dss_cons (ds_set (i := 4) A rfl (by first | exact Or.inl rfl | exact Or.inr rfl) (de_op (stays_D _) od_mod (de_callT (cd_int) rfl Γ.n_int (by decide +kernel) (de_op (stays_D _) od_mul (de_var (i := 4) rfl (by first | exact Or.inl rfl | exact Or.inr (Or.inl rfl) | exact Or.inr (Or.inr rfl))) (de_op (stays_D _) od_add (de_op (stays_D _) od_div (de_var (i := 4) rfl (by first | exact Or.inl rfl | exact Or.inr (Or.inl rfl) | exact Or.inr (Or.inr rfl))) (de_int)) (de_int)))) (de_int)))
    (dss_one (ds_ret (de_op (stays_D _) od_mod (de_callT (cd_int) rfl Γ.n_int (by decide +kernel) (de_op (stays_D _) od_div (de_var (i := 4) rfl (by first | exact Or.inl rfl | exact Or.inr (Or.inl rfl) | exact Or.inr (Or.inr rfl))) (de_int))) (de_var (i := 1) rfl (by first | exact Or.inl rfl | exact Or.inr (Or.inl rfl) | exact Or.inr (Or.inr rfl)))))))))))
def m__law_is_mark : Ms := mSeq (mPar [1, 2, 3] [false, false, false] (mCons (mOp1 oInt (mSl oSl (mVar 0) (mP0) (mP (mC (.int 2))))) (mCons (mOp1 oInt (mSl oSl (mVar 0) (mP (mC (.int 2))) (mP (mC (.int 4))))) (mCons (mOp1 oInt (mSl oSl (mVar 0) (mP (mC (.int 4))) (mP0))) (mNil)))))
    (mSeq (mSet 4 (mC (.int 31)))
    (mSeq (mIfS (mTest (mBin oEq (mVar 2) (mC (.int 2)))) (mSet 4 (mIf (mTest (mBin oEq (mBin oMod (mOp1 oInt (mVar 3)) (mC (.int 4))) (mC (.int 0)))) (mC (.int 29)) (mC (.int 28)))) (mNext))
    (mSeq (mIfS (mTest (mBin oIn (mVar 2) (mTup (mCons (mC (.int 4)) (mCons (mC (.int 6)) (mCons (mC (.int 9)) (mCons (mC (.int 11)) (mNil)))))))) (mSet 4 (mC (.int 30))) (mNext))
    (mRet (mAndV (mChain oLe oLe (mC (.int 1)) (mVar 2) (mC (.int 12))) (mChain oLe oLe (mC (.int 1)) (mVar 1) (mVar 4)))))))
def mf__law_is_mark : Mf := mkF [false] 5 m__law_is_mark
theorem ok__law_is_mark (Γ : Tie K mg κ) (Θ : Lm K mg base T κ) : FnG P w K mg base false 1 (κ.a__law_is_mark) (κ.d__law_is_mark) ["thing"] (spM ⟨K, mg, T.T, T.rv⟩ [false] mf__law_is_mark) := 
  fnG_of (N := N__law_is_mark) (m := m__law_is_mark) Γ.f__law_is_mark sc__law_is_mark rfl fun cdv_ A_ o_ s_ H_ E_ hr A B =>
    dss_cons (ds_par3 (i := 1) (j := 2) (l := 3) A rfl rfl rfl rfl (by decide) (by decide) (by decide) rfl rfl rfl (dk_cons (de_callT (cd_int) rfl Γ.n_int (by decide +kernel) (de_slice (stays_D _) sd_any (de_var (i := 0) rfl (by first | exact Or.inl rfl | exact Or.inr (Or.inl rfl) | exact Or.inr (Or.inr rfl))) (do_none) (do_some (de_int)))) (dk_cons (de_callT (cd_int) rfl Γ.n_int (by decide +kernel) (de_slice (stays_D _) sd_any (de_var (i := 0) rfl (by first | exact Or.inl rfl | exact Or.inr (Or.inl rfl) | exact Or.inr (Or.inr rfl))) (do_some (de_int)) (do_some (de_int)))) (dk_cons (de_callT (cd_int) rfl Γ.n_int (by decide +kernel) (de_slice (stays_D _) sd_any (de_var (i := 0) rfl (by first | exact Or.inl rfl | exact Or.inr (Or.inl rfl) | exact Or.inr (Or.inr rfl))) (do_some (de_int)) (do_none))) (dk_nil)))) rfl)
    (dss_cons (ds_set (i := 4) A rfl (by first | exact Or.inl rfl | exact Or.inr rfl) (de_int))
    (dss_cons (ds_if (dt_cmp (stays_D _) (od_eq A.un) (de_var (i := 2) rfl (by first | exact Or.inl rfl | exact Or.inr (Or.inl rfl) | exact Or.inr (Or.inr rfl))) (de_int)) (dss_one (ds_set (i := 4) A rfl (by first | exact Or.inl rfl | exact Or.inr rfl) (de_ifExp (dt_cmp (stays_D _) (od_eq A.un) (de_op (stays_D _) od_mod (de_callT (cd_int) rfl Γ.n_int (by decide +kernel) (de_var (i := 3) rfl (by first | exact Or.inl rfl | exact Or.inr (Or.inl rfl) | exact Or.inr (Or.inr rfl)))) (de_int)) (de_int)) (de_int) (de_int)))) (dss_nil))
    (dss_cons (ds_if (dt_cmp (stays_D _) (od_in A.un) (de_var (i := 2) rfl (by first | exact Or.inl rfl | exact Or.inr (Or.inl rfl) | exact Or.inr (Or.inr rfl))) (de_tup (ms := [false, false, false, false]) (da_cons (de_int) (da_cons (de_int) (da_cons (de_int) (da_cons (de_int) (da_nil))))))) (dss_one (ds_set (i := 4) A rfl (by first | exact Or.inl rfl | exact Or.inr rfl) (de_int))) (dss_nil))
    (dss_one (ds_ret (de_and (de_chain (stays_D _) (stays_D _) (od_le) (od_le) (de_int) (de_var (i := 2) rfl (by first | exact Or.inl rfl | exact Or.inr (Or.inl rfl) | exact Or.inr (Or.inr rfl))) (de_int)) (de_one (de_chain (stays_D _) (stays_D _) (od_le) (od_le) (de_int) (de_var (i := 1) rfl (by first | exact Or.inl rfl | exact Or.inr (Or.inl rfl) | exact Or.inr (Or.inr rfl))) (de_var (i := 4) rfl (by first | exact Or.inl rfl | exact Or.inr (Or.inl rfl) | exact Or.inr (Or.inr rfl)))))))))))
def b__law_steps_1 : Ms := mSeq (mSet 5 (mOp1 oAbs (mBin oSub (mOp1 oInt (mVar 3)) (mOp1 oInt (mVar 4)))))
    (mSet 2 (mBin oAdd (mVar 2) (mBin oMin2 (mVar 5) (mBin oSub (mC (.int 10)) (mVar 5)))))
def m__law_steps : Ms := mSeq (mSet 2 (mC (.int 0)))
    (mSeq (mFor (mBin oZipS (mSrc (mVar 0)) (mSrc (mVar 1))) (gT (gsCons (gN 3) (gsCons (gN 4) (gsNil)))) (b__law_steps_1))
    (mRet (mVar 2)))
def mf__law_steps : Mf := mkF [false, false] 6 m__law_steps
theorem ok__law_steps (Γ : Tie K mg κ) (Θ : Lm K mg base T κ) : FnG P w K mg base false 1 (κ.a__law_steps) (κ.d__law_steps) ["mark", "other"] (spM ⟨K, mg, T.T, T.rv⟩ [false, false] mf__law_steps) := 
  fnG_of (N := N__law_steps) (m := m__law_steps) Γ.f__law_steps sc__law_steps rfl fun cdv_ A_ o_ s_ H_ E_ hr A B =>
    dss_cons (ds_set (i := 2) A rfl (by first | exact Or.inl rfl | exact Or.inr rfl) (de_int))
    (dss_cons (ds_for (passes_of rfl) rfl (di_zipS rfl Γ.n_zip (dr_of (de_var (i := 0) rfl (by first | exact Or.inl rfl | exact Or.inr (Or.inl rfl) | exact Or.inr (Or.inr rfl)))) (dr_of (de_var (i := 1) rfl (by first | exact Or.inl rfl | exact Or.inr (Or.inl rfl) | exact Or.inr (Or.inr rfl))))) (dg_tup (n := 2) rfl (dgs_cons (dg_name (i := 3) A.nd rfl (by first | exact Or.inl rfl | exact Or.inr rfl)) (dgs_cons (dg_name (i := 4) A.nd rfl (by first | exact Or.inl rfl | exact Or.inr rfl)) (dgs_nil))) (by repeat (first | exact gl_nil | apply gl_cons))) (fun _ => dss_cons (ds_set (i := 5) A rfl (by first | exact Or.inl rfl | exact Or.inr rfl) (de_callB (cd_abs) rfl Γ.n_abs (by decide +kernel) (de_op (stays_D _) od_sub (de_callT (cd_int) rfl Γ.n_int (by decide +kernel) (de_var (i := 3) rfl (by first | exact Or.inl rfl | exact Or.inr (Or.inl rfl) | exact Or.inr (Or.inr rfl)))) (de_callT (cd_int) rfl Γ.n_int (by decide +kernel) (de_var (i := 4) rfl (by first | exact Or.inl rfl | exact Or.inr (Or.inl rfl) | exact Or.inr (Or.inr rfl)))))))
    (dss_one (ds_set (i := 2) A rfl (by first | exact Or.inl rfl | exact Or.inr rfl) (de_op (stays_D _) od_add (de_var (i := 2) rfl (by first | exact Or.inl rfl | exact Or.inr (Or.inl rfl) | exact Or.inr (Or.inr rfl))) (de_callB2 (stays_D _) (cd_min2 rfl) rfl Γ.n_min (by decide +kernel) (de_var (i := 5) rfl (by first | exact Or.inl rfl | exact Or.inr (Or.inl rfl) | exact Or.inr (Or.inr rfl))) (de_op (stays_D _) od_sub (de_int) (de_var (i := 5) rfl (by first | exact Or.inl rfl | exact Or.inr (Or.inl rfl) | exact Or.inr (Or.inr rfl))))))))))
    (dss_one (ds_ret (de_var (i := 2) rfl (by first | exact Or.inl rfl | exact Or.inr (Or.inl rfl) | exact Or.inr (Or.inr rfl))))))
def ms__law_word (th : Th) : Ms := mSeq (mTry 3 1 pfX (mThkE th) (fun y_ => mSeq (mSet 2 (mL (mLst (mCons (mIsE 1 (isC y_.cls "BadMark")) (mCons (mIsE 1 (isC y_.cls "BadPlaces")) (mNil))))))
    (mSeq (mIfS (mOr (mTest (mBin oNe (mMeth isL oCount (mQ (mVar 2)) (mC (.bool true))) (mC (.int 1)))) (mNot (mTest (mIsE 1 (isC y_.cls "ValueError"))))) (mRet (mC (.str "other"))) (mNext))
    (mRet (mIf (mTest (mBin oIx (mVar 2) (mC (.int 0)))) (mC (.str "mark")) (mC (.str "places")))))))
    (mRet (mC (.str "told")))
theorem said__law_word {X : Cx} {g : Addr} {cdg : Value} {s : Shared} {H : Hp} {B : Bs} {th : Th} (tk : ThkAt T (sdX X N__law_word "_law_word" (defScope s__law_word) g cdg s H) B th "call") (A : At T (sdX X N__law_word "_law_word" (defScope s__law_word) g cdg s H) W0 false) (Γ : Tie X.K X.mg κ) :
    DSs T (sdX X N__law_word "_law_word" (defScope s__law_word) g cdg s H) W0 B (defBody s__law_word) (ms__law_word th) :=
    dss_cons (ds_tryT (c := .ref (κ.a_PostFault)) (i := 1) rfl rfl A.nd rfl rfl ⟨rfl, by decide, .inl Γ.g_PostFault⟩ (fun y_ a_ h1_ h2_ => k_exm Γ h1_ h2_) (fun W_ pn_ xe_ tkw_ => ds_thkE tk tkw_)
    (fun a_ oe_ d_ pn_ y_ D_ hmD_ hz_ hf_ hd0_ hpf_ => have A2 := at_suite A a_ ((a_, oe_) :: pn_); have hd_ := hd0_ (pf_args hpf_); dss_cons (ds_set (i := 2) A2 rfl (by first | exact Or.inl rfl | exact Or.inr rfl) (de_ofL (dl_lst (ms := [false, false]) newL_fz (da_cons (de_isE (cv := (.ref (κ.a_BadMark))) (x := "error") (i := 1) (k_exc Γ hmD_ hpf_) (hd_ ▸ hz_) hf_ rfl (by first | exact Or.inl rfl | exact Or.inr (Or.inl rfl) | exact Or.inr (Or.inr rfl)) (pe_glob rfl Γ.e_BadMark.g rfl) (fun u r => r) (k_BadMark Γ hmD_ hpf_) rfl Γ.n_isinstance) (da_cons (de_isE (cv := (.ref (κ.a_BadPlaces))) (x := "error") (i := 1) (k_exc Γ hmD_ hpf_) (hd_ ▸ hz_) hf_ rfl (by first | exact Or.inl rfl | exact Or.inr (Or.inl rfl) | exact Or.inr (Or.inr rfl)) (pe_glob rfl Γ.e_BadPlaces.g rfl) (fun u r => r) (k_BadPlaces Γ hmD_ hpf_) rfl Γ.n_isinstance) (da_nil))))))
    (dss_cons (ds_if (dt_w (dw_or (dt_cmp (stays_D _) (od_ne A2.un) (de_meth1 (stays_Q _) PySem.F.plainAttrs_list PySem.F.slot_list_count PySem.F.type_list_count (md_count A2.un) (dq_of (de_var (i := 2) rfl (by first | exact Or.inl rfl | exact Or.inr (Or.inl rfl) | exact Or.inr (Or.inr rfl)))) (de_bl)) (de_int)) (dw_or1 (dt_not (dt_val (de_isE (cv := (.ty "ValueError")) (x := "error") (i := 1) (k_exc Γ hmD_ hpf_) (hd_ ▸ hz_) hf_ rfl (by first | exact Or.inl rfl | exact Or.inr (Or.inl rfl) | exact Or.inr (Or.inr rfl)) (pe_bltn rfl Γ.n_ValueError (by decide +kernel) rfl) (fun u r => r) (k_ValueError Γ hmD_ hpf_) rfl Γ.n_isinstance)))))) (dss_one (ds_ret (de_str))) (dss_nil))
    (dss_one (ds_ret (de_ifExp (dt_val (de_ix (stays_D _) xd_ix (de_var (i := 2) rfl (by first | exact Or.inl rfl | exact Or.inr (Or.inl rfl) | exact Or.inr (Or.inr rfl))) (de_int))) (de_str) (de_str)))))) A.tk)
    (dss_one (ds_ret (de_str)))
def m_is_within : Ms := mRet (mAndV (mCall mf_is_integer (mCons (mVar 0) (mNil))) (mChain oLe oLe (mVar 1) (mVar 0) (mVar 2)))
def mf_is_within : Mf := mkF [false, false, false] 3 m_is_within
theorem ok_is_within (Γ : Tie K mg κ) (Θ : Lm K mg base T κ) : FnG P w K mg base false 2 (κ.a_is_within) (κ.d_is_within) ["thing", "low", "high"] (spM ⟨K, mg, T.T, T.rv⟩ [false, false, false] mf_is_within) := 
  fnG_of (N := N_is_within) (m := m_is_within) Γ.f_is_within sc_is_within rfl fun cdv_ A_ o_ s_ H_ E_ hr A B =>
    dss_one (ds_ret (de_and (de_call (mf := mf_is_integer) (ms := [false]) (ok_is_integer Γ Θ) (hr.mono (by decide)) A (fun h => Bool.noConfusion h) rfl Γ.g_is_integer Γ.f_is_integer.kp Γ.b_is_integer (da_cons (de_var (i := 0) rfl (by first | exact Or.inl rfl | exact Or.inr (Or.inl rfl) | exact Or.inr (Or.inr rfl))) (da_nil))) (de_one (de_chain (stays_D _) (stays_D _) (od_le) (od_le) (de_var (i := 1) rfl (by first | exact Or.inl rfl | exact Or.inr (Or.inl rfl) | exact Or.inr (Or.inr rfl))) (de_var (i := 0) rfl (by first | exact Or.inl rfl | exact Or.inr (Or.inl rfl) | exact Or.inr (Or.inr rfl))) (de_var (i := 2) rfl (by first | exact Or.inl rfl | exact Or.inr (Or.inl rfl) | exact Or.inr (Or.inr rfl)))))))
def m_are_mark : Ms := mSeq (mIfS (mNot (mTest (mCall mf_are_digits (mCons (mVar 0) (mCons (mC (.int 6)) (mCons (mC (.int 6)) (mNil))))))) (mRet (mC (.bool false))) (mNext))
    (mSeq (mAsg (mCall mf_parts_of (mCons (mVar 0) (mNil))) (gT (gsCons (gN 1) (gsCons (gN 2) (gsCons (gN 3) (gsNil))))))
    (mRet (mAndV (mChain oLe oLe (mC (.int 1)) (mVar 2) (mC (.int 12))) (mChain oLe oLe (mC (.int 1)) (mVar 1) (mCall mf_month_length (mCons (mVar 2) (mCons (mVar 3) (mNil))))))))
def mf_are_mark : Mf := mkF [false] 4 m_are_mark
theorem ok_are_mark (Γ : Tie K mg κ) (Θ : Lm K mg base T κ) : FnG P w K mg base false 2 (κ.a_are_mark) (κ.d_are_mark) ["thing"] (spM ⟨K, mg, T.T, T.rv⟩ [false] mf_are_mark) := 
  fnG_of (N := N_are_mark) (m := m_are_mark) Γ.f_are_mark sc_are_mark rfl fun cdv_ A_ o_ s_ H_ E_ hr A B =>
    dss_cons (ds_if (dt_not (dt_val (de_call (mf := mf_are_digits) (ms := [false, false, false]) (ok_are_digits Γ Θ) (hr.mono (by decide)) A (fun h => Bool.noConfusion h) rfl Γ.g_are_digits Γ.f_are_digits.kp Γ.b_are_digits (da_cons (de_var (i := 0) rfl (by first | exact Or.inl rfl | exact Or.inr (Or.inl rfl) | exact Or.inr (Or.inr rfl))) (da_cons (de_int) (da_cons (de_int) (da_nil))))))) (dss_one (ds_ret (de_bl))) (dss_nil))
    (dss_cons (ds_asg (de_call (mf := mf_parts_of) (ms := [false]) (ok_parts_of Γ Θ) (hr.mono (by decide)) A (fun h => Bool.noConfusion h) rfl Γ.g_parts_of Γ.f_parts_of.kp Γ.b_parts_of (da_cons (de_var (i := 0) rfl (by first | exact Or.inl rfl | exact Or.inr (Or.inl rfl) | exact Or.inr (Or.inr rfl))) (da_nil))) (dg_tup (n := 3) rfl (dgs_cons (dg_name (i := 1) A.nd rfl (by first | exact Or.inl rfl | exact Or.inr rfl)) (dgs_cons (dg_name (i := 2) A.nd rfl (by first | exact Or.inl rfl | exact Or.inr rfl)) (dgs_cons (dg_name (i := 3) A.nd rfl (by first | exact Or.inl rfl | exact Or.inr rfl)) (dgs_nil)))) (by repeat (first | exact gl_nil | apply gl_cons))))
    (dss_one (ds_ret (de_and (de_chain (stays_D _) (stays_D _) (od_le) (od_le) (de_int) (de_var (i := 2) rfl (by first | exact Or.inl rfl | exact Or.inr (Or.inl rfl) | exact Or.inr (Or.inr rfl))) (de_int)) (de_one (de_chain (stays_D _) (stays_D _) (od_le) (od_le) (de_int) (de_var (i := 1) rfl (by first | exact Or.inl rfl | exact Or.inr (Or.inl rfl) | exact Or.inr (Or.inr rfl))) (de_call (mf := mf_month_length) (ms := [false, false]) (ok_month_length Γ Θ) (hr.mono (by decide)) A (fun h => Bool.noConfusion h) rfl Γ.g_month_length Γ.f_month_length.kp Γ.b_month_length (da_cons (de_var (i := 2) rfl (by first | exact Or.inl rfl | exact Or.inr (Or.inl rfl) | exact Or.inr (Or.inr rfl))) (da_cons (de_var (i := 3) rfl (by first | exact Or.inl rfl | exact Or.inr (Or.inl rfl) | exact Or.inr (Or.inr rfl))) (da_nil))))))))))
def m__law_any : Ms := mRet (mBin oIx (mVar 1) (mCall mf__law_draw (mCons (mVar 0) (mCons (mOp1 oLen (mVar 1)) (mNil)))))
def mf__law_any : Mf := mkF [false, false] 2 m__law_any
theorem ok__law_any (Γ : Tie K mg κ) (Θ : Lm K mg base T κ) : FnG P w K mg base false 2 (κ.a__law_any) (κ.d__law_any) ["hand", "some"] (spM ⟨K, mg, T.T, T.rv⟩ [false, false] mf__law_any) := 
  fnG_of (N := N__law_any) (m := m__law_any) Γ.f__law_any sc__law_any rfl fun cdv_ A_ o_ s_ H_ E_ hr A B =>
    dss_one (ds_ret (de_ix (stays_D _) xd_ix (de_var (i := 1) rfl (by first | exact Or.inl rfl | exact Or.inr (Or.inl rfl) | exact Or.inr (Or.inr rfl))) (de_call (mf := mf__law_draw) (ms := [false, false]) (ok__law_draw Γ Θ) (hr.mono (by decide)) A (fun h => Bool.noConfusion h) rfl Γ.g__law_draw Γ.f__law_draw.kp Γ.b__law_draw (da_cons (de_var (i := 0) rfl (by first | exact Or.inl rfl | exact Or.inr (Or.inl rfl) | exact Or.inr (Or.inr rfl))) (da_cons (de_callB (cd_len) rfl Γ.n_len (by decide +kernel) (de_var (i := 1) rfl (by first | exact Or.inl rfl | exact Or.inr (Or.inl rfl) | exact Or.inr (Or.inr rfl)))) (da_nil))))))
def q__law_turned_1 : M (List D) := mComp (mOp1 oItems (mVar 1)) [2] (gN 2) (mAnd (mTest (mBin oNe (mVar 2) (mVar 0))) (mTest (mCall mf__law_is_mark (mCons (mVar 2) (mNil))))) (mVar 2)
def m__law_turned : Ms := mSeq (mSet 1 (mL (mLst (mCons (mOp1 oRevS (mVar 0)) (mCons (mBin oAdd (mBin oAdd (mSl oSl (mVar 0) (mP (mC (.int 2))) (mP (mC (.int 4)))) (mSl oSl (mVar 0) (mP0) (mP (mC (.int 2))))) (mSl oSl (mVar 0) (mP (mC (.int 4))) (mP0))) (mNil))))))
    (mRet (mOp1 oTupOf (mQ (mL (mOp1 oSortSet (mOp1 oSetOf (mQ (mL (q__law_turned_1)))))))))
def mf__law_turned : Mf := mkF [false] 3 m__law_turned
theorem ok__law_turned (Γ : Tie K mg κ) (Θ : Lm K mg base T κ) : FnG P w K mg base false 2 (κ.a__law_turned) (κ.d__law_turned) ["mark"] (spM ⟨K, mg, T.T, T.rv⟩ [false] mf__law_turned) := 
  fnG_of (N := N__law_turned) (m := m__law_turned) Γ.f__law_turned sc__law_turned rfl fun cdv_ A_ o_ s_ H_ E_ hr A B =>
    dss_cons (ds_set (i := 1) A rfl (by first | exact Or.inl rfl | exact Or.inr rfl) (de_ofL (dl_lst (ms := [false, false]) newL_fz (da_cons (de_revS (de_var (i := 0) rfl (by first | exact Or.inl rfl | exact Or.inr (Or.inl rfl) | exact Or.inr (Or.inr rfl)))) (da_cons (de_op (stays_D _) od_add (de_op (stays_D _) od_add (de_slice (stays_D _) sd_any (de_var (i := 0) rfl (by first | exact Or.inl rfl | exact Or.inr (Or.inl rfl) | exact Or.inr (Or.inr rfl))) (do_some (de_int)) (do_some (de_int))) (de_slice (stays_D _) sd_any (de_var (i := 0) rfl (by first | exact Or.inl rfl | exact Or.inr (Or.inl rfl) | exact Or.inr (Or.inr rfl))) (do_none) (do_some (de_int)))) (de_slice (stays_D _) sd_any (de_var (i := 0) rfl (by first | exact Or.inl rfl | exact Or.inr (Or.inl rfl) | exact Or.inr (Or.inr rfl))) (do_some (de_int)) (do_none))) (da_nil))))))
    (dss_one (ds_ret (de_callT (cd_tuple) rfl Γ.n_tuple (by decide +kernel) (dq_of (de_ofL (de_callB (cd_sortSet newL_fz rfl A.un) rfl Γ.n_sorted (by decide +kernel) (de_callT (cd_set rfl) rfl Γ.n_set (by decide +kernel) (dq_of (de_ofL (dl_lc (own := [("one", 2)]) newL_fz A rfl (DI.toJ (di_any (de_var (i := 1) rfl (by first | exact Or.inl rfl | exact Or.inr (Or.inl rfl) | exact Or.inr (Or.inr rfl))))) (show BlkOk N__law_turned (defScope s__law_turned) _ [("one", 2)] from ⟨rfl, by decide +kernel, by decide +kernel, by decide +kernel, by decide +kernel⟩) (gb_name (i := 2) A.nd rfl (fun _ _ _ _ _ => ⟨(by first | exact Or.inl rfl | exact Or.inr rfl), (by first | exact Or.inl rfl | exact Or.inr rfl)⟩)) (by decide) (fun s_ H_ C_ cl_ fp_ => dts_one (dt_w (dw_and (dt_cmp (stays_D _) (od_ne A.un) (de_var (i := 2) rfl (by first | exact Or.inl rfl | exact Or.inr (Or.inl rfl) | exact Or.inr (Or.inr rfl))) (de_var (i := 0) rfl (by first | exact Or.inl rfl | exact Or.inr (Or.inl rfl) | exact Or.inr (Or.inr rfl)))) (dw_and1 (dt_val (de_call (mf := mf__law_is_mark) (ms := [false]) (ok__law_is_mark Γ Θ) (hr.mono (by decide)) (at_blk A _ _ _ _ _) (fun h => Bool.noConfusion h) rfl Γ.g__law_is_mark Γ.f__law_is_mark.kp Γ.b__law_is_mark (da_cons (de_var (i := 2) rfl (by first | exact Or.inl rfl | exact Or.inr (Or.inl rfl) | exact Or.inr (Or.inr rfl))) (da_nil)))))))) (fun s_ H_ C_ cl_ fp_ => de_var (i := 2) rfl (by first | exact Or.inl rfl | exact Or.inr (Or.inl rfl) | exact Or.inr (Or.inr rfl)))))))))))))
def q__law_worn_1 : M (List D) := mComp (mOp1 oItems (mC (.str "0123456789"))) [6] (gN 6) (mTrue) (mBin oAdd (mBin oAdd (mSl oSl (mVar 5) (mP0) (mP (mVar 3))) (mVar 6)) (mSl oSl (mVar 5) (mP (mBin oAdd (mVar 3) (mC (.int 1)))) (mP0)))
def b__law_worn_2 : Ms := mExtend 4 (mQ (mL (q__law_worn_1)))
def b__law_worn_3 : Ms := mSeq (mSetOw 4 (mLst (mNil)))
    (mSeq (mFor (mOp1 oItems (mVar 2)) (gN 5) (b__law_worn_2))
    (mFrz 4 (mSet 2 (mVar 4))))
def q__law_worn_4 : M (List D) := mComp (mOp1 oItems (mVar 2)) [5] (gN 5) (mTest (mCall mf__law_is_mark (mCons (mVar 5) (mNil)))) (mVar 5)
def m__law_worn : Ms := mSeq (mSet 2 (mL (mLst (mCons (mVar 0) (mNil)))))
    (mSeq (mFor (mOp1 oItems (mVar 1)) (gN 3) (b__law_worn_3))
    (mRet (mOp1 oTupOf (mQ (mL (mOp1 oSortL (mQ (mL (q__law_worn_4)))))))))
def mf__law_worn : Mf := mkF [false, false] 7 m__law_worn
theorem ok__law_worn (Γ : Tie K mg κ) (Θ : Lm K mg base T κ) : FnG P w K mg base false 2 (κ.a__law_worn) (κ.d__law_worn) ["mark", "places"] (spM ⟨K, mg, T.T, T.rv⟩ [false, false] mf__law_worn) := 
  fnG_of (N := N__law_worn) (m := m__law_worn) Γ.f__law_worn sc__law_worn rfl fun cdv_ A_ o_ s_ H_ E_ hr A B =>
    dss_cons (ds_set (i := 2) A rfl (by first | exact Or.inl rfl | exact Or.inr rfl) (de_ofL (dl_lst (ms := [false]) newL_fz (da_cons (de_var (i := 0) rfl (by first | exact Or.inl rfl | exact Or.inr (Or.inl rfl) | exact Or.inr (Or.inr rfl))) (da_nil)))))
    (dss_cons (ds_for (passes_of rfl) rfl (di_any (de_var (i := 1) rfl (by first | exact Or.inl rfl | exact Or.inr (Or.inl rfl) | exact Or.inr (Or.inr rfl)))) (dg_name (i := 3) A.nd rfl (by first | exact Or.inl rfl | exact Or.inr rfl)) (fun _ => dss_cons (ds_setOw (i := 4) A rfl (by first | exact Or.inl rfl | exact Or.inr rfl) (dl_lst (ms := []) newL_ow (da_nil)))
    (dss_cons (ds_for (passes_of rfl) rfl (di_any (de_var (i := 2) rfl (by first | exact Or.inl rfl | exact Or.inr (Or.inl rfl) | exact Or.inr (Or.inr rfl)))) (dg_name (i := 5) A.nd rfl (by first | exact Or.inl rfl | exact Or.inr rfl)) (fun _ => dss_one (ds_extend (i := 4) rfl (by first | exact Or.inl rfl | exact Or.inr (Or.inl rfl) | exact Or.inr (Or.inr rfl)) (dq_of (de_ofL (dl_lc (own := [("sign", 6)]) newL_fz A rfl (DI.toJ (di_any (de_str))) (show BlkOk N__law_worn (defScope s__law_worn) _ [("sign", 6)] from ⟨rfl, by decide +kernel, by decide +kernel, by decide +kernel, by decide +kernel⟩) (gb_name (i := 6) A.nd rfl (fun _ _ _ _ _ => ⟨(by first | exact Or.inl rfl | exact Or.inr rfl), (by first | exact Or.inl rfl | exact Or.inr rfl)⟩)) (by decide) (fun s_ H_ C_ cl_ fp_ => dts_nil) (fun s_ H_ C_ cl_ fp_ => de_op (stays_D _) od_add (de_op (stays_D _) od_add (de_slice (stays_D _) sd_any (de_var (i := 5) rfl (by first | exact Or.inl rfl | exact Or.inr (Or.inl rfl) | exact Or.inr (Or.inr rfl))) (do_none) (do_some (de_var (i := 3) rfl (by first | exact Or.inl rfl | exact Or.inr (Or.inl rfl) | exact Or.inr (Or.inr rfl))))) (de_var (i := 6) rfl (by first | exact Or.inl rfl | exact Or.inr (Or.inl rfl) | exact Or.inr (Or.inr rfl)))) (de_slice (stays_D _) sd_any (de_var (i := 5) rfl (by first | exact Or.inl rfl | exact Or.inr (Or.inl rfl) | exact Or.inr (Or.inr rfl))) (do_some (de_op (stays_D _) od_add (de_var (i := 3) rfl (by first | exact Or.inl rfl | exact Or.inr (Or.inl rfl) | exact Or.inr (Or.inr rfl))) (de_int))) (do_none)))))))))
    (dss_one (ds_frz 4 (ds_set (i := 2) A rfl (by first | exact Or.inl rfl | exact Or.inr rfl) (de_var (i := 4) rfl (by first | exact Or.inl rfl | exact Or.inr (Or.inl rfl) | exact Or.inr (Or.inr rfl)))))))))
    (dss_one (ds_ret (de_callT (cd_tuple) rfl Γ.n_tuple (by decide +kernel) (dq_of (de_ofL (de_callB (cd_sorted newL_fz A.un) rfl Γ.n_sorted (by decide +kernel) (dq_of (de_ofL (dl_lc (own := [("one", 5)]) newL_fz A rfl (DI.toJ (di_any (de_var (i := 2) rfl (by first | exact Or.inl rfl | exact Or.inr (Or.inl rfl) | exact Or.inr (Or.inr rfl))))) (show BlkOk N__law_worn (defScope s__law_worn) _ [("one", 5)] from ⟨rfl, by decide +kernel, by decide +kernel, by decide +kernel, by decide +kernel⟩) (gb_name (i := 5) A.nd rfl (fun _ _ _ _ _ => ⟨(by first | exact Or.inl rfl | exact Or.inr rfl), (by first | exact Or.inl rfl | exact Or.inr rfl)⟩)) (by decide) (fun s_ H_ C_ cl_ fp_ => dts_one (dt_val (de_call (mf := mf__law_is_mark) (ms := [false]) (ok__law_is_mark Γ Θ) (hr.mono (by decide)) (at_blk A _ _ _ _ _) (fun h => Bool.noConfusion h) rfl Γ.g__law_is_mark Γ.f__law_is_mark.kp Γ.b__law_is_mark (da_cons (de_var (i := 5) rfl (by first | exact Or.inl rfl | exact Or.inr (Or.inl rfl) | exact Or.inr (Or.inr rfl))) (da_nil))))) (fun s_ H_ C_ cl_ fp_ => de_var (i := 5) rfl (by first | exact Or.inl rfl | exact Or.inr (Or.inl rfl) | exact Or.inr (Or.inr rfl)))))))))))))
def q_are_below_1 : M (List D) := mComp (mOp1 oItems (mVar 0)) [2] (gN 2) (mTrue) (mCall mf_is_within (mCons (mVar 2) (mCons (mC (.int 0)) (mCons (mBin oSub (mVar 1) (mC (.int 1))) (mNil)))))
def m_are_below : Ms := mRet (mAndV (mOp1 (oIsi "tuple") (mVar 0)) (mOp1 oAll (mQ (mL (q_are_below_1)))))
def mf_are_below : Mf := mkF [false, false] 3 m_are_below
theorem ok_are_below (Γ : Tie K mg κ) (Θ : Lm K mg base T κ) : FnG P w K mg base false 3 (κ.a_are_below) (κ.d_are_below) ["thing", "many"] (spM ⟨K, mg, T.T, T.rv⟩ [false, false] mf_are_below) := 
  fnG_of (N := N_are_below) (m := m_are_below) Γ.f_are_below sc_are_below rfl fun cdv_ A_ o_ s_ H_ E_ hr A B =>
    dss_one (ds_ret (de_and (de_isi rfl Γ.n_isinstance rfl Γ.n_tuple (by decide +kernel) (de_var (i := 0) rfl (by first | exact Or.inl rfl | exact Or.inr (Or.inl rfl) | exact Or.inr (Or.inr rfl)))) (de_one (de_callB (cd_all rfl) rfl Γ.n_all (by decide +kernel) (dq_of (de_ofL (dl_lc (own := [("one", 2)]) newL_fz A rfl (DI.toJ (di_any (de_var (i := 0) rfl (by first | exact Or.inl rfl | exact Or.inr (Or.inl rfl) | exact Or.inr (Or.inr rfl))))) (show BlkOk N_are_below (defScope s_are_below) _ [("one", 2)] from ⟨rfl, by decide +kernel, by decide +kernel, by decide +kernel, by decide +kernel⟩) (gb_name (i := 2) A.nd rfl (fun _ _ _ _ _ => ⟨(by first | exact Or.inl rfl | exact Or.inr rfl), (by first | exact Or.inl rfl | exact Or.inr rfl)⟩)) (by decide) (fun s_ H_ C_ cl_ fp_ => dts_nil) (fun s_ H_ C_ cl_ fp_ => de_call (mf := mf_is_within) (ms := [false, false, false]) (ok_is_within Γ Θ) (hr.mono (by decide)) (at_blk A _ _ _ _ _) (fun h => Bool.noConfusion h) rfl Γ.g_is_within Γ.f_is_within.kp Γ.b_is_within (da_cons (de_var (i := 2) rfl (by first | exact Or.inl rfl | exact Or.inr (Or.inl rfl) | exact Or.inr (Or.inr rfl))) (da_cons (de_int) (da_cons (de_op (stays_D _) od_sub (de_var (i := 1) rfl (by first | exact Or.inl rfl | exact Or.inr (Or.inl rfl) | exact Or.inr (Or.inr rfl))) (de_int)) (da_nil))))))))))))
def m_is_mark : Ms := mRet (mCall mf_are_mark (mCons (mVar 0) (mNil)))
def mf_is_mark : Mf := mkF [false] 1 m_is_mark
theorem ok_is_mark (Γ : Tie K mg κ) (Θ : Lm K mg base T κ) : FnG P w K mg base false 3 (κ.a_is_mark) (κ.d_is_mark) ["thing"] (spM ⟨K, mg, T.T, T.rv⟩ [false] mf_is_mark) := 
  fnG_of (N := N_is_mark) (m := m_is_mark) Γ.f_is_mark sc_is_mark rfl fun cdv_ A_ o_ s_ H_ E_ hr A B =>
    dss_one (ds_ret (de_call (mf := mf_are_mark) (ms := [false]) (ok_are_mark Γ Θ) (hr.mono (by decide)) A (fun h => Bool.noConfusion h) rfl Γ.g_are_mark Γ.f_are_mark.kp Γ.b_are_mark (da_cons (de_var (i := 0) rfl (by first | exact Or.inl rfl | exact Or.inr (Or.inl rfl) | exact Or.inr (Or.inr rfl))) (da_nil))))
def m_check_mark : Ms := mIfS (mNot (mTest (mCall mf_are_mark (mCons (mVar 0) (mNil))))) (mRaise ⟨"BadMark", []⟩) (mNext)
def mf_check_mark : Mf := mkF [false] 1 m_check_mark
theorem ok_check_mark (Γ : Tie K mg κ) (Θ : Lm K mg base T κ) : FnG P w K mg base false 3 (κ.a_check_mark) (κ.d_check_mark) ["mark"] (spM ⟨K, mg, T.T, T.rv⟩ [false] mf_check_mark) := 
  fnG_of (N := N_check_mark) (m := m_check_mark) Γ.f_check_mark sc_check_mark rfl fun cdv_ A_ o_ s_ H_ E_ hr A B =>
    dss_one (ds_if (dt_not (dt_val (de_call (mf := mf_are_mark) (ms := [false]) (ok_are_mark Γ Θ) (hr.mono (by decide)) A (fun h => Bool.noConfusion h) rfl Γ.g_are_mark Γ.f_are_mark.kp Γ.b_are_mark (da_cons (de_var (i := 0) rfl (by first | exact Or.inl rfl | exact Or.inr (Or.inl rfl) | exact Or.inr (Or.inr rfl))) (da_nil))))) (dss_one (ds_raise A rfl Γ.e_BadMark rfl)) (dss_nil))
def q_mark_of_1 : M (List D) := mComp (mOp1 oRng1 (mC (.int 100))) [1] (gN 1) (mTrue) (mCall mf_year_days (mCons (mVar 1) (mNil)))
def b_mark_of_2 : Ms := mPar [0, 1] [false, false] (mCons (mBin oSub (mVar 0) (mCall mf_year_days (mCons (mVar 1) (mNil)))) (mCons (mBin oAdd (mVar 1) (mC (.int 1))) (mNil)))
def w_mark_of_3 : M Bool := mTest (mBin oGe (mVar 0) (mCall mf_year_days (mCons (mVar 1) (mNil))))
def b_mark_of_4 : Ms := mPar [0, 2] [false, false] (mCons (mBin oSub (mVar 0) (mCall mf_month_length (mCons (mVar 2) (mCons (mVar 1) (mNil))))) (mCons (mBin oAdd (mVar 2) (mC (.int 1))) (mNil)))
def w_mark_of_5 : M Bool := mTest (mBin oGe (mVar 0) (mCall mf_month_length (mCons (mVar 2) (mCons (mVar 1) (mNil)))))
def m_mark_of : Ms := mSeq (mIfS (mNot (mTest (mCall mf_is_within (mCons (mVar 0) (mCons (mC (.int 0)) (mCons (mBin oSub (mOp1 oSum (mQ (mL (q_mark_of_1)))) (mC (.int 1))) (mNil))))))) (mRaise ⟨"NoNumber", []⟩) (mNext))
    (mSeq (mAsg (mTup (mCons (mC (.int 0)) (mCons (mC (.int 1)) (mNil)))) (gT (gsCons (gN 1) (gsCons (gN 2) (gsNil)))))
    (mSeq (mWhile (w_mark_of_3) (b_mark_of_2))
    (mSeq (mWhile (w_mark_of_5) (b_mark_of_4))
    (mRet (mJoin [mOp1 oFmt2 (mBin oAdd (mVar 0) (mC (.int 1))), mOp1 oFmt2 (mVar 2), mOp1 oFmt2 (mVar 1)])))))
def mf_mark_of : Mf := mkF [false] 3 m_mark_of
theorem ok_mark_of (Γ : Tie K mg κ) (Θ : Lm K mg base T κ) : FnG P w K mg base false 3 (κ.a_mark_of) (κ.d_mark_of) ["number"] (spM ⟨K, mg, T.T, T.rv⟩ [false] mf_mark_of) := 
  fnG_of (N := N_mark_of) (m := m_mark_of) Γ.f_mark_of sc_mark_of rfl fun cdv_ A_ o_ s_ H_ E_ hr A B =>
    dss_cons (ds_if (dt_not (dt_val (de_call (mf := mf_is_within) (ms := [false, false, false]) (ok_is_within Γ Θ) (hr.mono (by decide)) A (fun h => Bool.noConfusion h) rfl Γ.g_is_within Γ.f_is_within.kp Γ.b_is_within (da_cons (de_var (i := 0) rfl (by first | exact Or.inl rfl | exact Or.inr (Or.inl rfl) | exact Or.inr (Or.inr rfl))) (da_cons (de_int) (da_cons (de_op (stays_D _) od_sub (de_callB (cd_sum rfl) rfl Γ.n_sum (by decide +kernel) (dq_of (de_ofL (dl_lc (own := [("year", 1)]) newL_fz A rfl (DI.toJ (di_range1 rfl Γ.n_range (de_gli rfl Γ.c_YEARS))) (show BlkOk N_mark_of (defScope s_mark_of) _ [("year", 1)] from ⟨rfl, by decide +kernel, by decide +kernel, by decide +kernel, by decide +kernel⟩) (gb_name (i := 1) A.nd rfl (fun _ _ _ _ _ => ⟨(by first | exact Or.inl rfl | exact Or.inr rfl), (by first | exact Or.inl rfl | exact Or.inr rfl)⟩)) (by decide) (fun s_ H_ C_ cl_ fp_ => dts_nil) (fun s_ H_ C_ cl_ fp_ => de_call (mf := mf_year_days) (ms := [false]) (ok_year_days Γ Θ) (hr.mono (by decide)) (at_blk A _ _ _ _ _) (fun h => Bool.noConfusion h) rfl Γ.g_year_days Γ.f_year_days.kp Γ.b_year_days (da_cons (de_var (i := 1) rfl (by first | exact Or.inl rfl | exact Or.inr (Or.inl rfl) | exact Or.inr (Or.inr rfl))) (da_nil))))))) (de_int)) (da_nil))))))) (dss_one (ds_raise A rfl Γ.e_NoNumber rfl)) (dss_nil))
    (dss_cons (ds_asg (de_tup (ms := [false, false]) (da_cons (de_int) (da_cons (de_int) (da_nil)))) (dg_tup (n := 2) rfl (dgs_cons (dg_name (i := 1) A.nd rfl (by first | exact Or.inl rfl | exact Or.inr rfl)) (dgs_cons (dg_name (i := 2) A.nd rfl (by first | exact Or.inl rfl | exact Or.inr rfl)) (dgs_nil))) (by repeat (first | exact gl_nil | apply gl_cons))))
    (dss_cons (ds_while (passes_of rfl) (dt_cmp (stays_D _) (od_ge) (de_var (i := 0) rfl (by first | exact Or.inl rfl | exact Or.inr (Or.inl rfl) | exact Or.inr (Or.inr rfl))) (de_call (mf := mf_year_days) (ms := [false]) (ok_year_days Γ Θ) (hr.mono (by decide)) A (fun h => Bool.noConfusion h) rfl Γ.g_year_days Γ.f_year_days.kp Γ.b_year_days (da_cons (de_var (i := 1) rfl (by first | exact Or.inl rfl | exact Or.inr (Or.inl rfl) | exact Or.inr (Or.inr rfl))) (da_nil)))) (dss_one (ds_par (i := 0) (j := 1) A rfl rfl rfl (by decide) rfl rfl (dk_cons (de_op (stays_D _) od_sub (de_var (i := 0) rfl (by first | exact Or.inl rfl | exact Or.inr (Or.inl rfl) | exact Or.inr (Or.inr rfl))) (de_call (mf := mf_year_days) (ms := [false]) (ok_year_days Γ Θ) (hr.mono (by decide)) A (fun h => Bool.noConfusion h) rfl Γ.g_year_days Γ.f_year_days.kp Γ.b_year_days (da_cons (de_var (i := 1) rfl (by first | exact Or.inl rfl | exact Or.inr (Or.inl rfl) | exact Or.inr (Or.inr rfl))) (da_nil)))) (dk_cons (de_op (stays_D _) od_add (de_var (i := 1) rfl (by first | exact Or.inl rfl | exact Or.inr (Or.inl rfl) | exact Or.inr (Or.inr rfl))) (de_int)) (dk_nil))) rfl)))
    (dss_cons (ds_while (passes_of rfl) (dt_cmp (stays_D _) (od_ge) (de_var (i := 0) rfl (by first | exact Or.inl rfl | exact Or.inr (Or.inl rfl) | exact Or.inr (Or.inr rfl))) (de_call (mf := mf_month_length) (ms := [false, false]) (ok_month_length Γ Θ) (hr.mono (by decide)) A (fun h => Bool.noConfusion h) rfl Γ.g_month_length Γ.f_month_length.kp Γ.b_month_length (da_cons (de_var (i := 2) rfl (by first | exact Or.inl rfl | exact Or.inr (Or.inl rfl) | exact Or.inr (Or.inr rfl))) (da_cons (de_var (i := 1) rfl (by first | exact Or.inl rfl | exact Or.inr (Or.inl rfl) | exact Or.inr (Or.inr rfl))) (da_nil))))) (dss_one (ds_par (i := 0) (j := 2) A rfl rfl rfl (by decide) rfl rfl (dk_cons (de_op (stays_D _) od_sub (de_var (i := 0) rfl (by first | exact Or.inl rfl | exact Or.inr (Or.inl rfl) | exact Or.inr (Or.inr rfl))) (de_call (mf := mf_month_length) (ms := [false, false]) (ok_month_length Γ Θ) (hr.mono (by decide)) A (fun h => Bool.noConfusion h) rfl Γ.g_month_length Γ.f_month_length.kp Γ.b_month_length (da_cons (de_var (i := 2) rfl (by first | exact Or.inl rfl | exact Or.inr (Or.inl rfl) | exact Or.inr (Or.inr rfl))) (da_cons (de_var (i := 1) rfl (by first | exact Or.inl rfl | exact Or.inr (Or.inl rfl) | exact Or.inr (Or.inr rfl))) (da_nil))))) (dk_cons (de_op (stays_D _) od_add (de_var (i := 2) rfl (by first | exact Or.inl rfl | exact Or.inr (Or.inl rfl) | exact Or.inr (Or.inr rfl))) (de_int)) (dk_nil))) rfl)))
    (dss_one (ds_ret (de_joined (ms := [mOp1 oFmt2 (mBin oAdd (mVar 0) (mC (.int 1))), mOp1 oFmt2 (mVar 2), mOp1 oFmt2 (mVar 1)]) (.cons (de_fmt2 (de_op (stays_D _) od_add (de_var (i := 0) rfl (by first | exact Or.inl rfl | exact Or.inr (Or.inl rfl) | exact Or.inr (Or.inr rfl))) (de_int))) (.cons (de_fmt2 (de_var (i := 2) rfl (by first | exact Or.inl rfl | exact Or.inr (Or.inl rfl) | exact Or.inr (Or.inr rfl)))) (.cons (de_fmt2 (de_var (i := 1) rfl (by first | exact Or.inl rfl | exact Or.inr (Or.inl rfl) | exact Or.inr (Or.inr rfl)))) (.nil))))))))))
def q_is_row_1 : M (List D) := mComp (mBin oZipS (mSrc (mVar 0)) (mSrc (mSl oSl (mVar 0) (mP (mC (.int 1))) (mP0)))) [2, 3] (gT (gsCons (gN 2) (gsCons (gN 3) (gsNil)))) (mTrue) (mBin oLt (mVar 2) (mVar 3))
def m_is_row : Ms := mRet (mAndV (mCall mf_are_below (mCons (mVar 0) (mCons (mVar 1) (mNil)))) (mOp1 oAll (mQ (mL (q_is_row_1)))))
def mf_is_row : Mf := mkF [false, false] 4 m_is_row
theorem ok_is_row (Γ : Tie K mg κ) (Θ : Lm K mg base T κ) : FnG P w K mg base false 4 (κ.a_is_row) (κ.d_is_row) ["thing", "many"] (spM ⟨K, mg, T.T, T.rv⟩ [false, false] mf_is_row) := 
  fnG_of (N := N_is_row) (m := m_is_row) Γ.f_is_row sc_is_row rfl fun cdv_ A_ o_ s_ H_ E_ hr A B =>
    dss_one (ds_ret (de_and (de_call (mf := mf_are_below) (ms := [false, false]) (ok_are_below Γ Θ) (hr.mono (by decide)) A (fun h => Bool.noConfusion h) rfl Γ.g_are_below Γ.f_are_below.kp Γ.b_are_below (da_cons (de_var (i := 0) rfl (by first | exact Or.inl rfl | exact Or.inr (Or.inl rfl) | exact Or.inr (Or.inr rfl))) (da_cons (de_var (i := 1) rfl (by first | exact Or.inl rfl | exact Or.inr (Or.inl rfl) | exact Or.inr (Or.inr rfl))) (da_nil)))) (de_one (de_callB (cd_all rfl) rfl Γ.n_all (by decide +kernel) (dq_of (de_ofL (dl_lc (own := [("one", 2), ("other", 3)]) newL_fz A rfl (DI.toJ (di_zipS rfl Γ.n_zip (dr_of (de_var (i := 0) rfl (by first | exact Or.inl rfl | exact Or.inr (Or.inl rfl) | exact Or.inr (Or.inr rfl)))) (dr_of (de_slice (stays_D _) sd_any (de_var (i := 0) rfl (by first | exact Or.inl rfl | exact Or.inr (Or.inl rfl) | exact Or.inr (Or.inr rfl))) (do_some (de_int)) (do_none))))) (show BlkOk N_is_row (defScope s_is_row) _ [("one", 2), ("other", 3)] from ⟨rfl, by decide +kernel, by decide +kernel, by decide +kernel, by decide +kernel⟩) (gb_tup (n := 2) rfl (gbs_cons (gb_name (i := 2) A.nd rfl (fun _ _ _ _ _ => ⟨(by first | exact Or.inl rfl | exact Or.inr rfl), (by first | exact Or.inl rfl | exact Or.inr rfl)⟩)) (gbs_cons (gb_name (i := 3) A.nd rfl (fun _ _ _ _ _ => ⟨(by first | exact Or.inl rfl | exact Or.inr rfl), (by first | exact Or.inl rfl | exact Or.inr rfl)⟩)) (gbs_nil))) (by repeat (first | exact gl_nil | apply gl_cons))) (by decide) (fun s_ H_ C_ cl_ fp_ => dts_nil) (fun s_ H_ C_ cl_ fp_ => de_cmp (stays_D _) (od_lt) (de_var (i := 2) rfl (by first | exact Or.inl rfl | exact Or.inr (Or.inl rfl) | exact Or.inr (Or.inr rfl))) (de_var (i := 3) rfl (by first | exact Or.inl rfl | exact Or.inr (Or.inl rfl) | exact Or.inr (Or.inr rfl)))))))))))
def q_turned_marks_1 : M (List D) := mComp (mOp1 oItems (mVar 1)) [2] (gN 2) (mAnd (mTest (mBin oNe (mVar 2) (mVar 0))) (mTest (mCall mf_are_mark (mCons (mVar 2) (mNil))))) (mVar 2)
def m_turned_marks : Ms := mSeq (mDrop (mCall mf_check_mark (mCons (mVar 0) (mNil))))
    (mSeq (mSet 1 (mL (mLst (mCons (mOp1 oRevS (mVar 0)) (mCons (mBin oAdd (mBin oAdd (mSl oSl (mVar 0) (mP (mC (.int 2))) (mP (mC (.int 4)))) (mSl oSl (mVar 0) (mP0) (mP (mC (.int 2))))) (mSl oSl (mVar 0) (mP (mC (.int 4))) (mP0))) (mNil))))))
    (mRet (mOp1 oTupOf (mQ (mL (mOp1 oSortSet (mOp1 oSetOf (mQ (mL (q_turned_marks_1))))))))))
def mf_turned_marks : Mf := mkF [false] 3 m_turned_marks
theorem ok_turned_marks (Γ : Tie K mg κ) (Θ : Lm K mg base T κ) : FnG P w K mg base false 4 (κ.a_turned_marks) (κ.d_turned_marks) ["mark"] (spM ⟨K, mg, T.T, T.rv⟩ [false] mf_turned_marks) := 
  fnG_of (N := N_turned_marks) (m := m_turned_marks) Γ.f_turned_marks sc_turned_marks rfl fun cdv_ A_ o_ s_ H_ E_ hr A B =>
    dss_cons (ds_expr (de_call (mf := mf_check_mark) (ms := [false]) (ok_check_mark Γ Θ) (hr.mono (by decide)) A (fun h => Bool.noConfusion h) rfl Γ.g_check_mark Γ.f_check_mark.kp Γ.b_check_mark (da_cons (de_var (i := 0) rfl (by first | exact Or.inl rfl | exact Or.inr (Or.inl rfl) | exact Or.inr (Or.inr rfl))) (da_nil))))
    (dss_cons (ds_set (i := 1) A rfl (by first | exact Or.inl rfl | exact Or.inr rfl) (de_ofL (dl_lst (ms := [false, false]) newL_fz (da_cons (de_revS (de_var (i := 0) rfl (by first | exact Or.inl rfl | exact Or.inr (Or.inl rfl) | exact Or.inr (Or.inr rfl)))) (da_cons (de_op (stays_D _) od_add (de_op (stays_D _) od_add (de_slice (stays_D _) sd_any (de_var (i := 0) rfl (by first | exact Or.inl rfl | exact Or.inr (Or.inl rfl) | exact Or.inr (Or.inr rfl))) (do_some (de_int)) (do_some (de_int))) (de_slice (stays_D _) sd_any (de_var (i := 0) rfl (by first | exact Or.inl rfl | exact Or.inr (Or.inl rfl) | exact Or.inr (Or.inr rfl))) (do_none) (do_some (de_int)))) (de_slice (stays_D _) sd_any (de_var (i := 0) rfl (by first | exact Or.inl rfl | exact Or.inr (Or.inl rfl) | exact Or.inr (Or.inr rfl))) (do_some (de_int)) (do_none))) (da_nil))))))
    (dss_one (ds_ret (de_callT (cd_tuple) rfl Γ.n_tuple (by decide +kernel) (dq_of (de_ofL (de_callB (cd_sortSet newL_fz rfl A.un) rfl Γ.n_sorted (by decide +kernel) (de_callT (cd_set rfl) rfl Γ.n_set (by decide +kernel) (dq_of (de_ofL (dl_lc (own := [("one", 2)]) newL_fz A rfl (DI.toJ (di_any (de_var (i := 1) rfl (by first | exact Or.inl rfl | exact Or.inr (Or.inl rfl) | exact Or.inr (Or.inr rfl))))) (show BlkOk N_turned_marks (defScope s_turned_marks) _ [("one", 2)] from ⟨rfl, by decide +kernel, by decide +kernel, by decide +kernel, by decide +kernel⟩) (gb_name (i := 2) A.nd rfl (fun _ _ _ _ _ => ⟨(by first | exact Or.inl rfl | exact Or.inr rfl), (by first | exact Or.inl rfl | exact Or.inr rfl)⟩)) (by decide) (fun s_ H_ C_ cl_ fp_ => dts_one (dt_w (dw_and (dt_cmp (stays_D _) (od_ne A.un) (de_var (i := 2) rfl (by first | exact Or.inl rfl | exact Or.inr (Or.inl rfl) | exact Or.inr (Or.inr rfl))) (de_var (i := 0) rfl (by first | exact Or.inl rfl | exact Or.inr (Or.inl rfl) | exact Or.inr (Or.inr rfl)))) (dw_and1 (dt_val (de_call (mf := mf_are_mark) (ms := [false]) (ok_are_mark Γ Θ) (hr.mono (by decide)) (at_blk A _ _ _ _ _) (fun h => Bool.noConfusion h) rfl Γ.g_are_mark Γ.f_are_mark.kp Γ.b_are_mark (da_cons (de_var (i := 2) rfl (by first | exact Or.inl rfl | exact Or.inr (Or.inl rfl) | exact Or.inr (Or.inr rfl))) (da_nil)))))))) (fun s_ H_ C_ cl_ fp_ => de_var (i := 2) rfl (by first | exact Or.inl rfl | exact Or.inr (Or.inl rfl) | exact Or.inr (Or.inr rfl))))))))))))))
def q_fewest_turns_1 : M (List D) := mComp (mBin oZipS (mSrc (mVar 0)) (mSrc (mVar 1))) [2, 3] (gT (gsCons (gN 2) (gsCons (gN 3) (gsNil)))) (mTrue) (mCall mf_steps_between (mCons (mVar 2) (mCons (mVar 3) (mNil))))
def m_fewest_turns : Ms := mSeq (mDrop (mCall mf_check_mark (mCons (mVar 0) (mNil))))
    (mSeq (mDrop (mCall mf_check_mark (mCons (mVar 1) (mNil))))
    (mRet (mOp1 oSum (mQ (mL (q_fewest_turns_1))))))
def mf_fewest_turns : Mf := mkF [false, false] 4 m_fewest_turns
theorem ok_fewest_turns (Γ : Tie K mg κ) (Θ : Lm K mg base T κ) : FnG P w K mg base false 4 (κ.a_fewest_turns) (κ.d_fewest_turns) ["mark", "other"] (spM ⟨K, mg, T.T, T.rv⟩ [false, false] mf_fewest_turns) := 
  fnG_of (N := N_fewest_turns) (m := m_fewest_turns) Γ.f_fewest_turns sc_fewest_turns rfl fun cdv_ A_ o_ s_ H_ E_ hr A B =>
    dss_cons (ds_expr (de_call (mf := mf_check_mark) (ms := [false]) (ok_check_mark Γ Θ) (hr.mono (by decide)) A (fun h => Bool.noConfusion h) rfl Γ.g_check_mark Γ.f_check_mark.kp Γ.b_check_mark (da_cons (de_var (i := 0) rfl (by first | exact Or.inl rfl | exact Or.inr (Or.inl rfl) | exact Or.inr (Or.inr rfl))) (da_nil))))
    (dss_cons (ds_expr (de_call (mf := mf_check_mark) (ms := [false]) (ok_check_mark Γ Θ) (hr.mono (by decide)) A (fun h => Bool.noConfusion h) rfl Γ.g_check_mark Γ.f_check_mark.kp Γ.b_check_mark (da_cons (de_var (i := 1) rfl (by first | exact Or.inl rfl | exact Or.inr (Or.inl rfl) | exact Or.inr (Or.inr rfl))) (da_nil))))
    (dss_one (ds_ret (de_callB (cd_sum rfl) rfl Γ.n_sum (by decide +kernel) (dq_of (de_ofL (dl_lc (own := [("one", 2), ("two", 3)]) newL_fz A rfl (DI.toJ (di_zipS rfl Γ.n_zip (dr_of (de_var (i := 0) rfl (by first | exact Or.inl rfl | exact Or.inr (Or.inl rfl) | exact Or.inr (Or.inr rfl)))) (dr_of (de_var (i := 1) rfl (by first | exact Or.inl rfl | exact Or.inr (Or.inl rfl) | exact Or.inr (Or.inr rfl)))))) (show BlkOk N_fewest_turns (defScope s_fewest_turns) _ [("one", 2), ("two", 3)] from ⟨rfl, by decide +kernel, by decide +kernel, by decide +kernel, by decide +kernel⟩) (gb_tup (n := 2) rfl (gbs_cons (gb_name (i := 2) A.nd rfl (fun _ _ _ _ _ => ⟨(by first | exact Or.inl rfl | exact Or.inr rfl), (by first | exact Or.inl rfl | exact Or.inr rfl)⟩)) (gbs_cons (gb_name (i := 3) A.nd rfl (fun _ _ _ _ _ => ⟨(by first | exact Or.inl rfl | exact Or.inr rfl), (by first | exact Or.inl rfl | exact Or.inr rfl)⟩)) (gbs_nil))) (by repeat (first | exact gl_nil | apply gl_cons))) (by decide) (fun s_ H_ C_ cl_ fp_ => dts_nil) (fun s_ H_ C_ cl_ fp_ => de_call (mf := mf_steps_between) (ms := [false, false]) (ok_steps_between Γ Θ) (hr.mono (by decide)) (at_blk A _ _ _ _ _) (fun h => Bool.noConfusion h) rfl Γ.g_steps_between Γ.f_steps_between.kp Γ.b_steps_between (da_cons (de_var (i := 2) rfl (by first | exact Or.inl rfl | exact Or.inr (Or.inl rfl) | exact Or.inr (Or.inr rfl))) (da_cons (de_var (i := 3) rfl (by first | exact Or.inl rfl | exact Or.inr (Or.inl rfl) | exact Or.inr (Or.inr rfl))) (da_nil)))))))))))
def m__law_marks : Ms := mSeq (mSet 1 (mL (mLst (mCons (mCall mf_mark_of (mCons (mCall mf__law_draw (mCons (mVar 0) (mCons (mC (.int 36525)) (mNil)))) (mNil))) (mCons (mC (.str "111111")) (mCons (mC (.str "121112")) (mCons (mC (.str "010110")) (mCons (mC (.str "100101")) (mCons (mC (.str "290200")) (mCons (mC (.str "020112")) (mCons (mC (.str "311299")) (mNil))))))))))))
    (mRet (mCall mf__law_any (mCons (mVar 0) (mCons (mBin oAdd (mVar 1) (mL (mLst (mCons (mCall mf_mark_of (mCons (mCall mf__law_draw (mCons (mVar 0) (mCons (mC (.int 36525)) (mNil)))) (mNil))) (mCons (mCall mf_mark_of (mCons (mCall mf__law_draw (mCons (mVar 0) (mCons (mC (.int 366)) (mNil)))) (mNil))) (mNil)))))) (mNil)))))
def mf__law_marks : Mf := mkF [false] 2 m__law_marks
theorem ok__law_marks (Γ : Tie K mg κ) (Θ : Lm K mg base T κ) : FnG P w K mg base false 4 (κ.a__law_marks) (κ.d__law_marks) ["hand"] (spM ⟨K, mg, T.T, T.rv⟩ [false] mf__law_marks) := 
  fnG_of (N := N__law_marks) (m := m__law_marks) Γ.f__law_marks sc__law_marks rfl fun cdv_ A_ o_ s_ H_ E_ hr A B =>
    dss_cons (ds_set (i := 1) A rfl (by first | exact Or.inl rfl | exact Or.inr rfl) (de_ofL (dl_lst (ms := [false, false, false, false, false, false, false, false]) newL_fz (da_cons (de_call (mf := mf_mark_of) (ms := [false]) (ok_mark_of Γ Θ) (hr.mono (by decide)) A (fun h => Bool.noConfusion h) rfl Γ.g_mark_of Γ.f_mark_of.kp Γ.b_mark_of (da_cons (de_call (mf := mf__law_draw) (ms := [false, false]) (ok__law_draw Γ Θ) (hr.mono (by decide)) A (fun h => Bool.noConfusion h) rfl Γ.g__law_draw Γ.f__law_draw.kp Γ.b__law_draw (da_cons (de_var (i := 0) rfl (by first | exact Or.inl rfl | exact Or.inr (Or.inl rfl) | exact Or.inr (Or.inr rfl))) (da_cons (de_int) (da_nil)))) (da_nil))) (da_cons (de_str) (da_cons (de_str) (da_cons (de_str) (da_cons (de_str) (da_cons (de_str) (da_cons (de_str) (da_cons (de_str) (da_nil))))))))))))
    (dss_one (ds_ret (de_call (mf := mf__law_any) (ms := [false, false]) (ok__law_any Γ Θ) (hr.mono (by decide)) A (fun h => Bool.noConfusion h) rfl Γ.g__law_any Γ.f__law_any.kp Γ.b__law_any (da_cons (de_var (i := 0) rfl (by first | exact Or.inl rfl | exact Or.inr (Or.inl rfl) | exact Or.inr (Or.inr rfl))) (da_cons (de_op (stays_D _) od_add (de_var (i := 1) rfl (by first | exact Or.inl rfl | exact Or.inr (Or.inl rfl) | exact Or.inr (Or.inr rfl))) (de_ofL (dl_lst (ms := [false, false]) newL_fz (da_cons (de_call (mf := mf_mark_of) (ms := [false]) (ok_mark_of Γ Θ) (hr.mono (by decide)) A (fun h => Bool.noConfusion h) rfl Γ.g_mark_of Γ.f_mark_of.kp Γ.b_mark_of (da_cons (de_call (mf := mf__law_draw) (ms := [false, false]) (ok__law_draw Γ Θ) (hr.mono (by decide)) A (fun h => Bool.noConfusion h) rfl Γ.g__law_draw Γ.f__law_draw.kp Γ.b__law_draw (da_cons (de_var (i := 0) rfl (by first | exact Or.inl rfl | exact Or.inr (Or.inl rfl) | exact Or.inr (Or.inr rfl))) (da_cons (de_int) (da_nil)))) (da_nil))) (da_cons (de_call (mf := mf_mark_of) (ms := [false]) (ok_mark_of Γ Θ) (hr.mono (by decide)) A (fun h => Bool.noConfusion h) rfl Γ.g_mark_of Γ.f_mark_of.kp Γ.b_mark_of (da_cons (de_call (mf := mf__law_draw) (ms := [false, false]) (ok__law_draw Γ Θ) (hr.mono (by decide)) A (fun h => Bool.noConfusion h) rfl Γ.g__law_draw Γ.f__law_draw.kp Γ.b__law_draw (da_cons (de_var (i := 0) rfl (by first | exact Or.inl rfl | exact Or.inr (Or.inl rfl) | exact Or.inr (Or.inr rfl))) (da_cons (de_int) (da_nil)))) (da_nil))) (da_nil)))))) (da_nil))))))
def q_worn_1 : M (List D) := mComp2 (mOp1 oItems (mVar 2)) [4, 5] (gN 4) (mTrue) (mOp1 oRng1 (mC (.int 10))) [5] (gN 5) (mTrue) (mBin oAdd (mBin oAdd (mSl oSl (mVar 4) (mP0) (mP (mVar 3))) (mOp1 oStr (mVar 5))) (mSl oSl (mVar 4) (mP (mBin oAdd (mVar 3) (mC (.int 1)))) (mP0)))
def b_worn_2 : Ms := mSet 2 (mL (q_worn_1))
def q_worn_3 : M (List D) := mComp (mOp1 oItems (mVar 2)) [4] (gN 4) (mTest (mCall mf_are_mark (mCons (mVar 4) (mNil)))) (mVar 4)
def m_worn : Ms := mSeq (mDrop (mCall mf_check_mark (mCons (mVar 0) (mNil))))
    (mSeq (mIfS (mOr (mNot (mTest (mCall mf_is_row (mCons (mVar 1) (mCons (mC (.int 6)) (mNil)))))) (mTest (mBin oGt (mOp1 oLen (mVar 1)) (mC (.int 3))))) (mRaise ⟨"BadPlaces", []⟩) (mNext))
    (mSeq (mSet 2 (mL (mLst (mCons (mVar 0) (mNil)))))
    (mSeq (mFor (mOp1 oItems (mVar 1)) (gN 3) (b_worn_2))
    (mRet (mOp1 oTupOf (mQ (mL (mOp1 oSortL (mQ (mL (q_worn_3)))))))))))
def mf_worn : Mf := mkF [false, false] 6 m_worn
theorem ok_worn (Γ : Tie K mg κ) (Θ : Lm K mg base T κ) : FnG P w K mg base false 5 (κ.a_worn) (κ.d_worn) ["mark", "places"] (spM ⟨K, mg, T.T, T.rv⟩ [false, false] mf_worn) := 
  fnG_of (N := N_worn) (m := m_worn) Γ.f_worn sc_worn rfl fun cdv_ A_ o_ s_ H_ E_ hr A B =>
    dss_cons (ds_expr (de_call (mf := mf_check_mark) (ms := [false]) (ok_check_mark Γ Θ) (hr.mono (by decide)) A (fun h => Bool.noConfusion h) rfl Γ.g_check_mark Γ.f_check_mark.kp Γ.b_check_mark (da_cons (de_var (i := 0) rfl (by first | exact Or.inl rfl | exact Or.inr (Or.inl rfl) | exact Or.inr (Or.inr rfl))) (da_nil))))
    (dss_cons (ds_if (dt_w (dw_or (dt_not (dt_val (de_call (mf := mf_is_row) (ms := [false, false]) (ok_is_row Γ Θ) (hr.mono (by decide)) A (fun h => Bool.noConfusion h) rfl Γ.g_is_row Γ.f_is_row.kp Γ.b_is_row (da_cons (de_var (i := 1) rfl (by first | exact Or.inl rfl | exact Or.inr (Or.inl rfl) | exact Or.inr (Or.inr rfl))) (da_cons (de_int) (da_nil)))))) (dw_or1 (dt_cmp (stays_D _) (od_gt) (de_callB (cd_len) rfl Γ.n_len (by decide +kernel) (de_var (i := 1) rfl (by first | exact Or.inl rfl | exact Or.inr (Or.inl rfl) | exact Or.inr (Or.inr rfl)))) (de_gli rfl Γ.c_MOST_WORN))))) (dss_one (ds_raise A rfl Γ.e_BadPlaces rfl)) (dss_nil))
    (dss_cons (ds_set (i := 2) A rfl (by first | exact Or.inl rfl | exact Or.inr rfl) (de_ofL (dl_lst (ms := [false]) newL_fz (da_cons (de_var (i := 0) rfl (by first | exact Or.inl rfl | exact Or.inr (Or.inl rfl) | exact Or.inr (Or.inr rfl))) (da_nil)))))
    (dss_cons (ds_for (passes_of rfl) rfl (di_any (de_var (i := 1) rfl (by first | exact Or.inl rfl | exact Or.inr (Or.inl rfl) | exact Or.inr (Or.inr rfl)))) (dg_name (i := 3) A.nd rfl (by first | exact Or.inl rfl | exact Or.inr rfl)) (fun _ => dss_one (ds_setLc2 (i := 2) (own := [("one", 4), ("digit", 5)]) (vs1 := [5]) A rfl rfl rfl rfl (DI.toJ (di_any (de_var (i := 2) rfl (by first | exact Or.inl rfl | exact Or.inr (Or.inl rfl) | exact Or.inr (Or.inr rfl))))) (show BlkOk N_worn (defScope s_worn) _ [("one", 4), ("digit", 5)] from ⟨rfl, by decide +kernel, by decide +kernel, by decide +kernel, by decide +kernel⟩) (by decide) (asg_n 4) (gb_name (i := 4) A.nd rfl (fun _ _ _ _ _ => ⟨(by first | exact Or.inl rfl | exact Or.inr rfl), (by first | exact Or.inl rfl | exact Or.inr rfl)⟩)) (by decide) (fun s_ H_ C_ cl_ fp_ => dts_nil) (fun s_ H_ C_ cl_ fp_ => di_range1 rfl Γ.n_range (de_gli rfl Γ.c_WHEEL)) (gb_name (i := 5) A.nd rfl (fun _ _ _ _ _ => ⟨(by first | exact Or.inl rfl | exact Or.inr rfl), (by first | exact Or.inl rfl | exact Or.inr rfl)⟩)) (by decide) (fun s_ H_ C_ cl_ fp_ => dts_nil) (fun s_ H_ C_ cl_ fp_ => de_op (stays_D _) od_add (de_op (stays_D _) od_add (de_slice (stays_D _) sd_any (de_var (i := 4) rfl (by first | exact Or.inl rfl | exact Or.inr (Or.inl rfl) | exact Or.inr (Or.inr rfl))) (do_none) (do_some (de_var (i := 3) rfl (by first | exact Or.inl rfl | exact Or.inr (Or.inl rfl) | exact Or.inr (Or.inr rfl))))) (de_callT (cd_str) rfl Γ.n_str (by decide +kernel) (de_var (i := 5) rfl (by first | exact Or.inl rfl | exact Or.inr (Or.inl rfl) | exact Or.inr (Or.inr rfl))))) (de_slice (stays_D _) sd_any (de_var (i := 4) rfl (by first | exact Or.inl rfl | exact Or.inr (Or.inl rfl) | exact Or.inr (Or.inr rfl))) (do_some (de_op (stays_D _) od_add (de_var (i := 3) rfl (by first | exact Or.inl rfl | exact Or.inr (Or.inl rfl) | exact Or.inr (Or.inr rfl))) (de_int))) (do_none))))))
    (dss_one (ds_ret (de_callT (cd_tuple) rfl Γ.n_tuple (by decide +kernel) (dq_of (de_ofL (de_callB (cd_sorted newL_fz A.un) rfl Γ.n_sorted (by decide +kernel) (dq_of (de_ofL (dl_lc (own := [("one", 4)]) newL_fz A rfl (DI.toJ (di_any (de_var (i := 2) rfl (by first | exact Or.inl rfl | exact Or.inr (Or.inl rfl) | exact Or.inr (Or.inr rfl))))) (show BlkOk N_worn (defScope s_worn) _ [("one", 4)] from ⟨rfl, by decide +kernel, by decide +kernel, by decide +kernel, by decide +kernel⟩) (gb_name (i := 4) A.nd rfl (fun _ _ _ _ _ => ⟨(by first | exact Or.inl rfl | exact Or.inr rfl), (by first | exact Or.inl rfl | exact Or.inr rfl)⟩)) (by decide) (fun s_ H_ C_ cl_ fp_ => dts_one (dt_val (de_call (mf := mf_are_mark) (ms := [false]) (ok_are_mark Γ Θ) (hr.mono (by decide)) (at_blk A _ _ _ _ _) (fun h => Bool.noConfusion h) rfl Γ.g_are_mark Γ.f_are_mark.kp Γ.b_are_mark (da_cons (de_var (i := 4) rfl (by first | exact Or.inl rfl | exact Or.inr (Or.inl rfl) | exact Or.inr (Or.inr rfl))) (da_nil))))) (fun s_ H_ C_ cl_ fp_ => de_var (i := 4) rfl (by first | exact Or.inl rfl | exact Or.inr (Or.inl rfl) | exact Or.inr (Or.inr rfl)))))))))))))))
def q__law_mark_right_1 : M (List D) := mComp (mOp1 oRng1 (mC (.int 6))) [6] (gN 6) (mTest (mBin oEq (mCall mf__law_draw (mCons (mVar 0) (mCons (mC (.int 3)) (mNil)))) (mC (.int 0)))) (mVar 6)
def q__law_mark_right_2 : M (List D) := mComp (mOp1 oItems (mSl oSl (mCall mf_worn (mCons (mVar 1) (mCons (mVar 2) (mNil)))) (mP0) (mP (mC (.int 20))))) [7] (gN 7) (mTrue) (mBin oIs (mCall mf_is_mark (mCons (mVar 7) (mNil))) (mC (.bool true)))
def m__law_mark_right : Ms := mSeq (mIfS (mTest (mBin oNe (mCall mf_turned_marks (mCons (mVar 1) (mNil))) (mCall mf__law_turned (mCons (mVar 1) (mNil))))) (mRet (mC (.bool false))) (mNext))
    (mSeq (mSet 2 (mSl oSl (mOp1 oTupOf (mQ (mL (q__law_mark_right_1)))) (mP0) (mP (mC (.int 3)))))
    (mSeq (mIfS (mOr (mTest (mBin oNe (mCall mf_worn (mCons (mVar 1) (mCons (mVar 2) (mNil)))) (mCall mf__law_worn (mCons (mVar 1) (mCons (mVar 2) (mNil)))))) (mTest (mBin oNe (mCall mf_worn (mCons (mVar 1) (mCons (mTup (mNil)) (mNil)))) (mTup (mCons (mVar 1) (mNil)))))) (mRet (mC (.bool false))) (mNext))
    (mSeq (mIfS (mNot (mTest (mOp1 oAll (mQ (mL (q__law_mark_right_2)))))) (mRet (mC (.bool false))) (mNext))
    (mSeq (mPar [3, 4] [false, false] (mCons (mCall mf__law_marks (mCons (mVar 0) (mNil))) (mCons (mCall mf__law_marks (mCons (mVar 0) (mNil))) (mNil))))
    (mSeq (mSet 5 (mCall mf_fewest_turns (mCons (mVar 1) (mCons (mVar 3) (mNil)))))
    (mSeq (mIfS (mOr (mTest (mBin oNe (mVar 5) (mCall mf__law_steps (mCons (mVar 1) (mCons (mVar 3) (mNil)))))) (mOr (mTest (mBin oNe (mCall mf_fewest_turns (mCons (mVar 3) (mCons (mVar 1) (mNil)))) (mVar 5))) (mTest (mBin oNe (mCall mf_fewest_turns (mCons (mVar 1) (mCons (mVar 1) (mNil)))) (mC (.int 0)))))) (mRet (mC (.bool false))) (mNext))
    (mRet (mBin oLe (mVar 5) (mBin oAdd (mCall mf_fewest_turns (mCons (mVar 1) (mCons (mVar 4) (mNil)))) (mCall mf_fewest_turns (mCons (mVar 4) (mCons (mVar 3) (mNil)))))))))))))
def mf__law_mark_right : Mf := mkF [false, false] 8 m__law_mark_right
theorem ok__law_mark_right (Γ : Tie K mg κ) (Θ : Lm K mg base T κ) : FnG P w K mg base false 6 (κ.a__law_mark_right) (κ.d__law_mark_right) ["hand", "mark"] (spM ⟨K, mg, T.T, T.rv⟩ [false, false] mf__law_mark_right) := 
  fnG_of (N := N__law_mark_right) (m := m__law_mark_right) Γ.f__law_mark_right sc__law_mark_right rfl fun cdv_ A_ o_ s_ H_ E_ hr A B =>
    dss_cons (ds_if (dt_cmp (stays_D _) (od_ne A.un) (de_call (mf := mf_turned_marks) (ms := [false]) (ok_turned_marks Γ Θ) (hr.mono (by decide)) A (fun h => Bool.noConfusion h) rfl Γ.g_turned_marks Γ.f_turned_marks.kp Γ.b_turned_marks (da_cons (de_var (i := 1) rfl (by first | exact Or.inl rfl | exact Or.inr (Or.inl rfl) | exact Or.inr (Or.inr rfl))) (da_nil))) (de_call (mf := mf__law_turned) (ms := [false]) (ok__law_turned Γ Θ) (hr.mono (by decide)) A (fun h => Bool.noConfusion h) rfl Γ.g__law_turned Γ.f__law_turned.kp Γ.b__law_turned (da_cons (de_var (i := 1) rfl (by first | exact Or.inl rfl | exact Or.inr (Or.inl rfl) | exact Or.inr (Or.inr rfl))) (da_nil)))) (dss_one (ds_ret (de_bl))) (dss_nil))
    (dss_cons (ds_set (i := 2) A rfl (by first | exact Or.inl rfl | exact Or.inr rfl) (de_slice (stays_D _) sd_any (de_callT (cd_tuple) rfl Γ.n_tuple (by decide +kernel) (dq_of (de_ofL (dl_lc (own := [("place", 6)]) newL_fz A rfl (DI.toJ (di_range1 rfl Γ.n_range (de_int))) (show BlkOk N__law_mark_right (defScope s__law_mark_right) _ [("place", 6)] from ⟨rfl, by decide +kernel, by decide +kernel, by decide +kernel, by decide +kernel⟩) (gb_name (i := 6) A.nd rfl (fun _ _ _ _ _ => ⟨(by first | exact Or.inl rfl | exact Or.inr rfl), (by first | exact Or.inl rfl | exact Or.inr rfl)⟩)) (by decide) (fun s_ H_ C_ cl_ fp_ => dts_one (dt_cmp (stays_D _) (od_eq A.un) (de_call (mf := mf__law_draw) (ms := [false, false]) (ok__law_draw Γ Θ) (hr.mono (by decide)) (at_blk A _ _ _ _ _) (fun h => Bool.noConfusion h) rfl Γ.g__law_draw Γ.f__law_draw.kp Γ.b__law_draw (da_cons (de_var (i := 0) rfl (by first | exact Or.inl rfl | exact Or.inr (Or.inl rfl) | exact Or.inr (Or.inr rfl))) (da_cons (de_int) (da_nil)))) (de_int))) (fun s_ H_ C_ cl_ fp_ => de_var (i := 6) rfl (by first | exact Or.inl rfl | exact Or.inr (Or.inl rfl) | exact Or.inr (Or.inr rfl))))))) (do_none) (do_some (de_int))))
    (dss_cons (ds_if (dt_w (dw_or (dt_cmp (stays_D _) (od_ne A.un) (de_call (mf := mf_worn) (ms := [false, false]) (ok_worn Γ Θ) (hr.mono (by decide)) A (fun h => Bool.noConfusion h) rfl Γ.g_worn Γ.f_worn.kp Γ.b_worn (da_cons (de_var (i := 1) rfl (by first | exact Or.inl rfl | exact Or.inr (Or.inl rfl) | exact Or.inr (Or.inr rfl))) (da_cons (de_var (i := 2) rfl (by first | exact Or.inl rfl | exact Or.inr (Or.inl rfl) | exact Or.inr (Or.inr rfl))) (da_nil)))) (de_call (mf := mf__law_worn) (ms := [false, false]) (ok__law_worn Γ Θ) (hr.mono (by decide)) A (fun h => Bool.noConfusion h) rfl Γ.g__law_worn Γ.f__law_worn.kp Γ.b__law_worn (da_cons (de_var (i := 1) rfl (by first | exact Or.inl rfl | exact Or.inr (Or.inl rfl) | exact Or.inr (Or.inr rfl))) (da_cons (de_var (i := 2) rfl (by first | exact Or.inl rfl | exact Or.inr (Or.inl rfl) | exact Or.inr (Or.inr rfl))) (da_nil))))) (dw_or1 (dt_cmp (stays_D _) (od_ne A.un) (de_call (mf := mf_worn) (ms := [false, false]) (ok_worn Γ Θ) (hr.mono (by decide)) A (fun h => Bool.noConfusion h) rfl Γ.g_worn Γ.f_worn.kp Γ.b_worn (da_cons (de_var (i := 1) rfl (by first | exact Or.inl rfl | exact Or.inr (Or.inl rfl) | exact Or.inr (Or.inr rfl))) (da_cons (de_tup (ms := []) (da_nil)) (da_nil)))) (de_tup (ms := [false]) (da_cons (de_var (i := 1) rfl (by first | exact Or.inl rfl | exact Or.inr (Or.inl rfl) | exact Or.inr (Or.inr rfl))) (da_nil))))))) (dss_one (ds_ret (de_bl))) (dss_nil))
    (dss_cons (ds_if (dt_not (dt_val (de_callB (cd_all rfl) rfl Γ.n_all (by decide +kernel) (dq_of (de_ofL (dl_lc (own := [("one", 7)]) newL_fz A rfl (DI.toJ (di_any (de_slice (stays_D _) sd_any (de_call (mf := mf_worn) (ms := [false, false]) (ok_worn Γ Θ) (hr.mono (by decide)) A (fun h => Bool.noConfusion h) rfl Γ.g_worn Γ.f_worn.kp Γ.b_worn (da_cons (de_var (i := 1) rfl (by first | exact Or.inl rfl | exact Or.inr (Or.inl rfl) | exact Or.inr (Or.inr rfl))) (da_cons (de_var (i := 2) rfl (by first | exact Or.inl rfl | exact Or.inr (Or.inl rfl) | exact Or.inr (Or.inr rfl))) (da_nil)))) (do_none) (do_some (de_int))))) (show BlkOk N__law_mark_right (defScope s__law_mark_right) _ [("one", 7)] from ⟨rfl, by decide +kernel, by decide +kernel, by decide +kernel, by decide +kernel⟩) (gb_name (i := 7) A.nd rfl (fun _ _ _ _ _ => ⟨(by first | exact Or.inl rfl | exact Or.inr rfl), (by first | exact Or.inl rfl | exact Or.inr rfl)⟩)) (by decide) (fun s_ H_ C_ cl_ fp_ => dts_nil) (fun s_ H_ C_ cl_ fp_ => de_cmp (stays_D _) (od_is) (de_call (mf := mf_is_mark) (ms := [false]) (ok_is_mark Γ Θ) (hr.mono (by decide)) (at_blk A _ _ _ _ _) (fun h => Bool.noConfusion h) rfl Γ.g_is_mark Γ.f_is_mark.kp Γ.b_is_mark (da_cons (de_var (i := 7) rfl (by first | exact Or.inl rfl | exact Or.inr (Or.inl rfl) | exact Or.inr (Or.inr rfl))) (da_nil))) (de_bl)))))))) (dss_one (ds_ret (de_bl))) (dss_nil))
    (dss_cons (ds_par (i := 3) (j := 4) A rfl rfl rfl (by decide) rfl rfl (dk_cons (de_call (mf := mf__law_marks) (ms := [false]) (ok__law_marks Γ Θ) (hr.mono (by decide)) A (fun h => Bool.noConfusion h) rfl Γ.g__law_marks Γ.f__law_marks.kp Γ.b__law_marks (da_cons (de_var (i := 0) rfl (by first | exact Or.inl rfl | exact Or.inr (Or.inl rfl) | exact Or.inr (Or.inr rfl))) (da_nil))) (dk_cons (de_call (mf := mf__law_marks) (ms := [false]) (ok__law_marks Γ Θ) (hr.mono (by decide)) A (fun h => Bool.noConfusion h) rfl Γ.g__law_marks Γ.f__law_marks.kp Γ.b__law_marks (da_cons (de_var (i := 0) rfl (by first | exact Or.inl rfl | exact Or.inr (Or.inl rfl) | exact Or.inr (Or.inr rfl))) (da_nil))) (dk_nil))) rfl)
    (dss_cons (ds_set (i := 5) A rfl (by first | exact Or.inl rfl | exact Or.inr rfl) (de_call (mf := mf_fewest_turns) (ms := [false, false]) (ok_fewest_turns Γ Θ) (hr.mono (by decide)) A (fun h => Bool.noConfusion h) rfl Γ.g_fewest_turns Γ.f_fewest_turns.kp Γ.b_fewest_turns (da_cons (de_var (i := 1) rfl (by first | exact Or.inl rfl | exact Or.inr (Or.inl rfl) | exact Or.inr (Or.inr rfl))) (da_cons (de_var (i := 3) rfl (by first | exact Or.inl rfl | exact Or.inr (Or.inl rfl) | exact Or.inr (Or.inr rfl))) (da_nil)))))
    (dss_cons (ds_if (dt_w (dw_or (dt_cmp (stays_D _) (od_ne A.un) (de_var (i := 5) rfl (by first | exact Or.inl rfl | exact Or.inr (Or.inl rfl) | exact Or.inr (Or.inr rfl))) (de_call (mf := mf__law_steps) (ms := [false, false]) (ok__law_steps Γ Θ) (hr.mono (by decide)) A (fun h => Bool.noConfusion h) rfl Γ.g__law_steps Γ.f__law_steps.kp Γ.b__law_steps (da_cons (de_var (i := 1) rfl (by first | exact Or.inl rfl | exact Or.inr (Or.inl rfl) | exact Or.inr (Or.inr rfl))) (da_cons (de_var (i := 3) rfl (by first | exact Or.inl rfl | exact Or.inr (Or.inl rfl) | exact Or.inr (Or.inr rfl))) (da_nil))))) (dw_or (dt_cmp (stays_D _) (od_ne A.un) (de_call (mf := mf_fewest_turns) (ms := [false, false]) (ok_fewest_turns Γ Θ) (hr.mono (by decide)) A (fun h => Bool.noConfusion h) rfl Γ.g_fewest_turns Γ.f_fewest_turns.kp Γ.b_fewest_turns (da_cons (de_var (i := 3) rfl (by first | exact Or.inl rfl | exact Or.inr (Or.inl rfl) | exact Or.inr (Or.inr rfl))) (da_cons (de_var (i := 1) rfl (by first | exact Or.inl rfl | exact Or.inr (Or.inl rfl) | exact Or.inr (Or.inr rfl))) (da_nil)))) (de_var (i := 5) rfl (by first | exact Or.inl rfl | exact Or.inr (Or.inl rfl) | exact Or.inr (Or.inr rfl)))) (dw_or1 (dt_cmp (stays_D _) (od_ne A.un) (de_call (mf := mf_fewest_turns) (ms := [false, false]) (ok_fewest_turns Γ Θ) (hr.mono (by decide)) A (fun h => Bool.noConfusion h) rfl Γ.g_fewest_turns Γ.f_fewest_turns.kp Γ.b_fewest_turns (da_cons (de_var (i := 1) rfl (by first | exact Or.inl rfl | exact Or.inr (Or.inl rfl) | exact Or.inr (Or.inr rfl))) (da_cons (de_var (i := 1) rfl (by first | exact Or.inl rfl | exact Or.inr (Or.inl rfl) | exact Or.inr (Or.inr rfl))) (da_nil)))) (de_int)))))) (dss_one (ds_ret (de_bl))) (dss_nil))
    (dss_one (ds_ret (de_cmp (stays_D _) (od_le) (de_var (i := 5) rfl (by first | exact Or.inl rfl | exact Or.inr (Or.inl rfl) | exact Or.inr (Or.inr rfl))) (de_op (stays_D _) od_add (de_call (mf := mf_fewest_turns) (ms := [false, false]) (ok_fewest_turns Γ Θ) (hr.mono (by decide)) A (fun h => Bool.noConfusion h) rfl Γ.g_fewest_turns Γ.f_fewest_turns.kp Γ.b_fewest_turns (da_cons (de_var (i := 1) rfl (by first | exact Or.inl rfl | exact Or.inr (Or.inl rfl) | exact Or.inr (Or.inr rfl))) (da_cons (de_var (i := 4) rfl (by first | exact Or.inl rfl | exact Or.inr (Or.inl rfl) | exact Or.inr (Or.inr rfl))) (da_nil)))) (de_call (mf := mf_fewest_turns) (ms := [false, false]) (ok_fewest_turns Γ Θ) (hr.mono (by decide)) A (fun h => Bool.noConfusion h) rfl Γ.g_fewest_turns Γ.f_fewest_turns.kp Γ.b_fewest_turns (da_cons (de_var (i := 4) rfl (by first | exact Or.inl rfl | exact Or.inr (Or.inl rfl) | exact Or.inr (Or.inr rfl))) (da_cons (de_var (i := 3) rfl (by first | exact Or.inl rfl | exact Or.inr (Or.inl rfl) | exact Or.inr (Or.inr rfl))) (da_nil))))))))))))))
def m__law_refused_right : Ms := mSeq (mSet 2 (mL (mLst (mCons (mC .none) (mCons (mC (.int 0)) (mCons (mC (.str "")) (mCons (mC (.str "290201")) (mCons (mC (.str "310400")) (mCons (mC (.str "000100")) (mCons (mC (.str "010000")) (mCons (mC (.str "011300")) (mCons (mC (.str "10101")) (mCons (mC (.str "0101000")) (mCons (mL (mLst (mCons (mC (.str "010100")) (mNil)))) (mNil)))))))))))))))
    (mSeq (mSet 2 (mCall mf__law_any (mCons (mVar 0) (mCons (mVar 2) (mNil)))))
    (mSeq (mSet 3 (mCall mf__law_any (mCons (mVar 0) (mCons (mL (mLst (mCons (mC .none) (mCons (mC (.int 0)) (mCons (mL (mLst (mCons (mC (.int 0)) (mNil)))) (mCons (mTup (mCons (mC (.int 6)) (mNil))) (mCons (mTup (mCons (mOp1 oNeg (mC (.int 1))) (mNil))) (mCons (mTup (mCons (mC (.int 1)) (mCons (mC (.int 0)) (mNil)))) (mCons (mTup (mCons (mC (.int 2)) (mCons (mC (.int 2)) (mNil)))) (mCons (mTup (mCons (mC (.int 0)) (mCons (mC (.int 1)) (mCons (mC (.int 2)) (mCons (mC (.int 3)) (mNil)))))) (mCons (mTup (mCons (mC (.bool true)) (mNil))) (mCons (mTup (mCons (mC (.str "0")) (mNil))) (mCons (mTup (mCons (mC .none) (mNil))) (mCons (mC eD) (mNil))))))))))))))) (mNil)))))
    (mSeq (mSetOw 4 (mLst (mCons (mLam (runSaid 3 ms__law_word) (mCall mf_turned_marks (mCons (mVar 2) (mNil)))) (mNil))))
    (mSeq (mAppend 4 (mLam (runSaid 3 ms__law_word) (mCall mf_fewest_turns (mCons (mVar 2) (mCons (mVar 1) (mNil))))))
    (mSeq (mAppend 4 (mLam (runSaid 3 ms__law_word) (mCall mf_fewest_turns (mCons (mVar 1) (mCons (mVar 2) (mNil))))))
    (mSeq (mAppend 4 (mLam (runSaid 3 ms__law_word) (mCall mf_worn (mCons (mVar 2) (mCons (mVar 3) (mNil))))))
    (mSeq (mAppend 4 (mLam (runSaid 3 ms__law_word) (mCall mf_worn (mCons (mVar 1) (mCons (mVar 3) (mNil))))))
    (mRet (mBin oEqQ (mOwn 4) (mQ (mBin oAdd (mBin oMul (mL (mLst (mCons (mC (.str "mark")) (mNil)))) (mC (.int 4))) (mL (mLst (mCons (mC (.str "places")) (mNil)))))))))))))))
def mf__law_refused_right : Mf := mkF [false, false] 5 m__law_refused_right
theorem ok__law_refused_right (Γ : Tie K mg κ) (Θ : Lm K mg base T κ) : FnG P w K mg base false 8 (κ.a__law_refused_right) (κ.d__law_refused_right) ["hand", "mark"] (spM ⟨K, mg, T.T, T.rv⟩ [false, false] mf__law_refused_right) := by
  obtain ⟨oc, od, kV, doc, pm, an, ct, osl, hfd, lk, hcd⟩ := Γ.l__law_refused_right
  obtain ⟨oc2, od2, kV2, doc2, pm2, an2, cdv2, ct2, osl2, hfd_, lk_, hc_⟩ := Γ.f__law_word.ex
  rw [hfd_] at lk_
  rw [hfd] at lk ⊢
  exact fnG_ofL (N := N__law_refused_right) (m := m__law_refused_right) lk hcd sc__law_refused_right rfl fun A_ o_ s_ H_ E_ hr A B =>
    dss_cons (ds_set (i := 2) A rfl (by first | exact Or.inl rfl | exact Or.inr rfl) (de_ofL (dl_lst (ms := [false, false, false, false, false, false, false, false, false, false, false]) newL_fz (da_cons (de_non) (da_cons (de_int) (da_cons (de_str) (da_cons (de_str) (da_cons (de_str) (da_cons (de_str) (da_cons (de_str) (da_cons (de_str) (da_cons (de_str) (da_cons (de_str) (da_cons (de_ofL (dl_lst (ms := [false]) newL_fz (da_cons (de_str) (da_nil)))) (da_nil)))))))))))))))
    (dss_cons (ds_set (i := 2) A rfl (by first | exact Or.inl rfl | exact Or.inr rfl) (de_call (mf := mf__law_any) (ms := [false, false]) (ok__law_any Γ Θ) (hr.mono (by decide)) A (fun h => Bool.noConfusion h) rfl Γ.g__law_any Γ.f__law_any.kp Γ.b__law_any (da_cons (de_var (i := 0) rfl (by first | exact Or.inl rfl | exact Or.inr (Or.inl rfl) | exact Or.inr (Or.inr rfl))) (da_cons (de_var (i := 2) rfl (by first | exact Or.inl rfl | exact Or.inr (Or.inl rfl) | exact Or.inr (Or.inr rfl))) (da_nil)))))
    (dss_cons (ds_set (i := 3) A rfl (by first | exact Or.inl rfl | exact Or.inr rfl) (de_call (mf := mf__law_any) (ms := [false, false]) (ok__law_any Γ Θ) (hr.mono (by decide)) A (fun h => Bool.noConfusion h) rfl Γ.g__law_any Γ.f__law_any.kp Γ.b__law_any (da_cons (de_var (i := 0) rfl (by first | exact Or.inl rfl | exact Or.inr (Or.inl rfl) | exact Or.inr (Or.inr rfl))) (da_cons (de_ofL (dl_lst (ms := [false, false, false, false, false, false, false, false, false, false, false, false]) newL_fz (da_cons (de_non) (da_cons (de_int) (da_cons (de_ofL (dl_lst (ms := [false]) newL_fz (da_cons (de_int) (da_nil)))) (da_cons (de_tup (ms := [false]) (da_cons (de_int) (da_nil))) (da_cons (de_tup (ms := [false]) (da_cons (de_neg (de_int)) (da_nil))) (da_cons (de_tup (ms := [false, false]) (da_cons (de_int) (da_cons (de_int) (da_nil)))) (da_cons (de_tup (ms := [false, false]) (da_cons (de_int) (da_cons (de_int) (da_nil)))) (da_cons (de_tup (ms := [false, false, false, false]) (da_cons (de_int) (da_cons (de_int) (da_cons (de_int) (da_cons (de_int) (da_nil)))))) (da_cons (de_tup (ms := [false]) (da_cons (de_bl) (da_nil))) (da_cons (de_tup (ms := [false]) (da_cons (de_str) (da_nil))) (da_cons (de_tup (ms := [false]) (da_cons (de_non) (da_nil))) (da_cons (de_ed) (da_nil))))))))))))))) (da_nil)))))
    (dss_cons (ds_setOw (i := 4) A rfl (by first | exact Or.inl rfl | exact Or.inr rfl) (dl_lst (ms := [false]) newL_ow (da_cons (de_lam (x := "_law_word") (a := "call") (c := κ.c__law_refused_right) (P := κ.t__law_refused_right) (k := 5) (Ng := N__law_word) (m := ms__law_word) rfl Γ.g__law_word Γ.f__law_word.kp lk_ hc_ (hfd_ ▸ Γ.b__law_word) sc__law_word rfl (by first | exact Or.inl rfl | exact Or.inr (Or.inl rfl) | exact Or.inr (Or.inr rfl)) (fun f_ s_ H_ B_ th_ tk_ A_ => said__law_word tk_ A_ Γ) (q := ("_law_refused_right" : Str) ++ ".<locals>.") rfl Θ.t__law_refused_right rfl Θ.i__law_refused_right Θ.u__law_refused_right (hr.mono (by decide)) (lamS_by (show lamSB (defScope s__law_refused_right) _ = true from by decide +kernel)) rfl A (fun _ _ _ _ _ => rfl) (fun A_ o_ s_ H_ E_ f_ c_ hr2 A1 => de_call (mf := mf_turned_marks) (ms := [false]) (ok_turned_marks Γ Θ) (hr2.mono (by decide)) A1 (fun h => Bool.noConfusion h) rfl Γ.g_turned_marks Γ.f_turned_marks.kp Γ.b_turned_marks (da_cons (de_var (i := 2) rfl (by first | exact Or.inl rfl | exact Or.inr (Or.inl rfl) | exact Or.inr (Or.inr rfl))) (da_nil)))) (da_nil))))
    (dss_cons (ds_append (i := 4) rfl (by first | exact Or.inl rfl | exact Or.inr (Or.inl rfl) | exact Or.inr (Or.inr rfl)) (de_lam (x := "_law_word") (a := "call") (c := κ.c__law_refused_right) (P := κ.t__law_refused_right) (k := 5) (Ng := N__law_word) (m := ms__law_word) rfl Γ.g__law_word Γ.f__law_word.kp lk_ hc_ (hfd_ ▸ Γ.b__law_word) sc__law_word rfl (by first | exact Or.inl rfl | exact Or.inr (Or.inl rfl) | exact Or.inr (Or.inr rfl)) (fun f_ s_ H_ B_ th_ tk_ A_ => said__law_word tk_ A_ Γ) (q := ("_law_refused_right" : Str) ++ ".<locals>.") rfl Θ.t__law_refused_right rfl Θ.i__law_refused_right Θ.u__law_refused_right (hr.mono (by decide)) (lamS_by (show lamSB (defScope s__law_refused_right) _ = true from by decide +kernel)) rfl A (fun _ _ _ _ _ => rfl) (fun A_ o_ s_ H_ E_ f_ c_ hr4 A3 => de_call (mf := mf_fewest_turns) (ms := [false, false]) (ok_fewest_turns Γ Θ) (hr4.mono (by decide)) A3 (fun h => Bool.noConfusion h) rfl Γ.g_fewest_turns Γ.f_fewest_turns.kp Γ.b_fewest_turns (da_cons (de_var (i := 2) rfl (by first | exact Or.inl rfl | exact Or.inr (Or.inl rfl) | exact Or.inr (Or.inr rfl))) (da_cons (de_var (i := 1) rfl (by first | exact Or.inl rfl | exact Or.inr (Or.inl rfl) | exact Or.inr (Or.inr rfl))) (da_nil))))))
    (dss_cons (ds_append (i := 4) rfl (by first | exact Or.inl rfl | exact Or.inr (Or.inl rfl) | exact Or.inr (Or.inr rfl)) (de_lam (x := "_law_word") (a := "call") (c := κ.c__law_refused_right) (P := κ.t__law_refused_right) (k := 5) (Ng := N__law_word) (m := ms__law_word) rfl Γ.g__law_word Γ.f__law_word.kp lk_ hc_ (hfd_ ▸ Γ.b__law_word) sc__law_word rfl (by first | exact Or.inl rfl | exact Or.inr (Or.inl rfl) | exact Or.inr (Or.inr rfl)) (fun f_ s_ H_ B_ th_ tk_ A_ => said__law_word tk_ A_ Γ) (q := ("_law_refused_right" : Str) ++ ".<locals>.") rfl Θ.t__law_refused_right rfl Θ.i__law_refused_right Θ.u__law_refused_right (hr.mono (by decide)) (lamS_by (show lamSB (defScope s__law_refused_right) _ = true from by decide +kernel)) rfl A (fun _ _ _ _ _ => rfl) (fun A_ o_ s_ H_ E_ f_ c_ hr6 A5 => de_call (mf := mf_fewest_turns) (ms := [false, false]) (ok_fewest_turns Γ Θ) (hr6.mono (by decide)) A5 (fun h => Bool.noConfusion h) rfl Γ.g_fewest_turns Γ.f_fewest_turns.kp Γ.b_fewest_turns (da_cons (de_var (i := 1) rfl (by first | exact Or.inl rfl | exact Or.inr (Or.inl rfl) | exact Or.inr (Or.inr rfl))) (da_cons (de_var (i := 2) rfl (by first | exact Or.inl rfl | exact Or.inr (Or.inl rfl) | exact Or.inr (Or.inr rfl))) (da_nil))))))
    (dss_cons (ds_append (i := 4) rfl (by first | exact Or.inl rfl | exact Or.inr (Or.inl rfl) | exact Or.inr (Or.inr rfl)) (de_lam (x := "_law_word") (a := "call") (c := κ.c__law_refused_right) (P := κ.t__law_refused_right) (k := 5) (Ng := N__law_word) (m := ms__law_word) rfl Γ.g__law_word Γ.f__law_word.kp lk_ hc_ (hfd_ ▸ Γ.b__law_word) sc__law_word rfl (by first | exact Or.inl rfl | exact Or.inr (Or.inl rfl) | exact Or.inr (Or.inr rfl)) (fun f_ s_ H_ B_ th_ tk_ A_ => said__law_word tk_ A_ Γ) (q := ("_law_refused_right" : Str) ++ ".<locals>.") rfl Θ.t__law_refused_right rfl Θ.i__law_refused_right Θ.u__law_refused_right (hr.mono (by decide)) (lamS_by (show lamSB (defScope s__law_refused_right) _ = true from by decide +kernel)) rfl A (fun _ _ _ _ _ => rfl) (fun A_ o_ s_ H_ E_ f_ c_ hr8 A7 => de_call (mf := mf_worn) (ms := [false, false]) (ok_worn Γ Θ) (hr8.mono (by decide)) A7 (fun h => Bool.noConfusion h) rfl Γ.g_worn Γ.f_worn.kp Γ.b_worn (da_cons (de_var (i := 2) rfl (by first | exact Or.inl rfl | exact Or.inr (Or.inl rfl) | exact Or.inr (Or.inr rfl))) (da_cons (de_var (i := 3) rfl (by first | exact Or.inl rfl | exact Or.inr (Or.inl rfl) | exact Or.inr (Or.inr rfl))) (da_nil))))))
    (dss_cons (ds_append (i := 4) rfl (by first | exact Or.inl rfl | exact Or.inr (Or.inl rfl) | exact Or.inr (Or.inr rfl)) (de_lam (x := "_law_word") (a := "call") (c := κ.c__law_refused_right) (P := κ.t__law_refused_right) (k := 5) (Ng := N__law_word) (m := ms__law_word) rfl Γ.g__law_word Γ.f__law_word.kp lk_ hc_ (hfd_ ▸ Γ.b__law_word) sc__law_word rfl (by first | exact Or.inl rfl | exact Or.inr (Or.inl rfl) | exact Or.inr (Or.inr rfl)) (fun f_ s_ H_ B_ th_ tk_ A_ => said__law_word tk_ A_ Γ) (q := ("_law_refused_right" : Str) ++ ".<locals>.") rfl Θ.t__law_refused_right rfl Θ.i__law_refused_right Θ.u__law_refused_right (hr.mono (by decide)) (lamS_by (show lamSB (defScope s__law_refused_right) _ = true from by decide +kernel)) rfl A (fun _ _ _ _ _ => rfl) (fun A_ o_ s_ H_ E_ f_ c_ hr10 A9 => de_call (mf := mf_worn) (ms := [false, false]) (ok_worn Γ Θ) (hr10.mono (by decide)) A9 (fun h => Bool.noConfusion h) rfl Γ.g_worn Γ.f_worn.kp Γ.b_worn (da_cons (de_var (i := 1) rfl (by first | exact Or.inl rfl | exact Or.inr (Or.inl rfl) | exact Or.inr (Or.inr rfl))) (da_cons (de_var (i := 3) rfl (by first | exact Or.inl rfl | exact Or.inr (Or.inl rfl) | exact Or.inr (Or.inr rfl))) (da_nil))))))
    (dss_one (ds_ret (de_cmp (stays_Q _) (od_eqQ A.un) (dq_own (i := 4) rfl (by first | exact Or.inl rfl | exact Or.inr (Or.inl rfl) | exact Or.inr (Or.inr rfl))) (dq_of (de_op (stays_D _) od_add (de_op (stays_D _) od_mul (de_ofL (dl_lst (ms := [false]) newL_fz (da_cons (de_str) (da_nil)))) (de_int)) (de_ofL (dl_lst (ms := [false]) newL_fz (da_cons (de_str) (da_nil))))))))))))))))
def b_law_1 : Ms := mSeq (mSet 3 (mCall mf__law_marks (mCons (mVar 1) (mNil))))
    (mIfS (mOr (mNot (mTest (mCall mf__law_mark_right (mCons (mVar 1) (mCons (mVar 3) (mNil)))))) (mNot (mTest (mCall mf__law_refused_right (mCons (mVar 1) (mCons (mVar 3) (mNil))))))) (mRet (mC (.bool false))) (mNext))
def m_law : Ms := mSeq (mSet 1 (mCall mf__law_hand (mCons (mVar 0) (mNil))))
    (mSeq (mIfS (mOr (mTest (mBin oNe (mCall mf_turned_marks (mCons (mC (.str "010203")) (mNil))) (mTup (mCons (mC (.str "020103")) (mNil))))) (mTest (mBin oNe (mCall mf_turned_marks (mCons (mC (.str "100112")) (mNil))) (mTup (mCons (mC (.str "011012")) (mCons (mC (.str "211001")) (mNil))))))) (mRet (mC (.bool false))) (mNext))
    (mSeq (mIfS (mOr (mTest (mBin oNe (mCall mf_turned_marks (mCons (mC (.str "111111")) (mNil))) (mTup (mNil)))) (mTest (mBin oNe (mCall mf_fewest_turns (mCons (mC (.str "010100")) (mCons (mC (.str "090100")) (mNil)))) (mC (.int 2))))) (mRet (mC (.bool false))) (mNext))
    (mSeq (mIfS (mTest (mBin oNe (mCall mf_worn (mCons (mC (.str "300100")) (mCons (mTup (mCons (mC (.int 0)) (mNil))) (mNil)))) (mTup (mCons (mC (.str "100100")) (mCons (mC (.str "200100")) (mCons (mC (.str "300100")) (mNil))))))) (mRet (mC (.bool false))) (mNext))
    (mSeq (mFor (mOp1 oRng1 (mC (.int 7))) (gN 2) (b_law_1))
    (mRet (mC (.bool true)))))))
def mf_law : Mf := mkF [false] 4 m_law
theorem ok_law (Γ : Tie K mg κ) (Θ : Lm K mg base T κ) : FnG P w K mg base true 9 (κ.a_law) (κ.d_law) ["script"] (spM ⟨K, mg, T.T, T.rv⟩ [false] mf_law) := 
  fnG_of (N := N_law) (m := m_law) Γ.f_law sc_law rfl fun cdv_ A_ o_ s_ H_ E_ hr A B =>
    dss_cons (ds_set (i := 1) A rfl (by first | exact Or.inl rfl | exact Or.inr rfl) (de_call (mf := mf__law_hand) (ms := [false]) (ok__law_hand Γ Θ) (hr.mono (by decide)) A (fun h => Bool.noConfusion h) rfl Γ.g__law_hand Γ.f__law_hand.kp Γ.b__law_hand (da_cons (de_var (i := 0) rfl (by first | exact Or.inl rfl | exact Or.inr (Or.inl rfl) | exact Or.inr (Or.inr rfl))) (da_nil))))
    (dss_cons (ds_if (dt_w (dw_or (dt_cmp (stays_D _) (od_ne A.un) (de_call (mf := mf_turned_marks) (ms := [false]) (ok_turned_marks Γ Θ) (hr.mono (by decide)) A (fun h => Bool.noConfusion h) rfl Γ.g_turned_marks Γ.f_turned_marks.kp Γ.b_turned_marks (da_cons (de_str) (da_nil))) (de_tup (ms := [false]) (da_cons (de_str) (da_nil)))) (dw_or1 (dt_cmp (stays_D _) (od_ne A.un) (de_call (mf := mf_turned_marks) (ms := [false]) (ok_turned_marks Γ Θ) (hr.mono (by decide)) A (fun h => Bool.noConfusion h) rfl Γ.g_turned_marks Γ.f_turned_marks.kp Γ.b_turned_marks (da_cons (de_str) (da_nil))) (de_tup (ms := [false, false]) (da_cons (de_str) (da_cons (de_str) (da_nil)))))))) (dss_one (ds_ret (de_bl))) (dss_nil))
    (dss_cons (ds_if (dt_w (dw_or (dt_cmp (stays_D _) (od_ne A.un) (de_call (mf := mf_turned_marks) (ms := [false]) (ok_turned_marks Γ Θ) (hr.mono (by decide)) A (fun h => Bool.noConfusion h) rfl Γ.g_turned_marks Γ.f_turned_marks.kp Γ.b_turned_marks (da_cons (de_str) (da_nil))) (de_tup (ms := []) (da_nil))) (dw_or1 (dt_cmp (stays_D _) (od_ne A.un) (de_call (mf := mf_fewest_turns) (ms := [false, false]) (ok_fewest_turns Γ Θ) (hr.mono (by decide)) A (fun h => Bool.noConfusion h) rfl Γ.g_fewest_turns Γ.f_fewest_turns.kp Γ.b_fewest_turns (da_cons (de_str) (da_cons (de_str) (da_nil)))) (de_int))))) (dss_one (ds_ret (de_bl))) (dss_nil))
    (dss_cons (ds_if (dt_cmp (stays_D _) (od_ne A.un) (de_call (mf := mf_worn) (ms := [false, false]) (ok_worn Γ Θ) (hr.mono (by decide)) A (fun h => Bool.noConfusion h) rfl Γ.g_worn Γ.f_worn.kp Γ.b_worn (da_cons (de_str) (da_cons (de_tup (ms := [false]) (da_cons (de_int) (da_nil))) (da_nil)))) (de_tup (ms := [false, false, false]) (da_cons (de_str) (da_cons (de_str) (da_cons (de_str) (da_nil)))))) (dss_one (ds_ret (de_bl))) (dss_nil))
    (dss_cons (ds_for (passes_of rfl) rfl (di_range1 rfl Γ.n_range (de_int)) (dg_name (i := 2) A.nd rfl (by first | exact Or.inl rfl | exact Or.inr rfl)) (fun _ => dss_cons (ds_set (i := 3) A rfl (by first | exact Or.inl rfl | exact Or.inr rfl) (de_call (mf := mf__law_marks) (ms := [false]) (ok__law_marks Γ Θ) (hr.mono (by decide)) A (fun h => Bool.noConfusion h) rfl Γ.g__law_marks Γ.f__law_marks.kp Γ.b__law_marks (da_cons (de_var (i := 1) rfl (by first | exact Or.inl rfl | exact Or.inr (Or.inl rfl) | exact Or.inr (Or.inr rfl))) (da_nil))))
    (dss_one (ds_if (dt_w (dw_or (dt_not (dt_val (de_call (mf := mf__law_mark_right) (ms := [false, false]) (ok__law_mark_right Γ Θ) (hr.mono (by decide)) A (fun h => Bool.noConfusion h) rfl Γ.g__law_mark_right Γ.f__law_mark_right.kp Γ.b__law_mark_right (da_cons (de_var (i := 1) rfl (by first | exact Or.inl rfl | exact Or.inr (Or.inl rfl) | exact Or.inr (Or.inr rfl))) (da_cons (de_var (i := 3) rfl (by first | exact Or.inl rfl | exact Or.inr (Or.inl rfl) | exact Or.inr (Or.inr rfl))) (da_nil)))))) (dw_or1 (dt_not (dt_val (de_call (mf := mf__law_refused_right) (ms := [false, false]) (ok__law_refused_right Γ Θ) (hr.mono (by decide)) A (fun h => Bool.noConfusion h) rfl Γ.g__law_refused_right Γ.f__law_refused_right.kp Γ.b__law_refused_right (da_cons (de_var (i := 1) rfl (by first | exact Or.inl rfl | exact Or.inr (Or.inl rfl) | exact Or.inr (Or.inr rfl))) (da_cons (de_var (i := 3) rfl (by first | exact Or.inl rfl | exact Or.inr (Or.inl rfl) | exact Or.inr (Or.inr rfl))) (da_nil))))))))) (dss_one (ds_ret (de_bl))) (dss_nil)))))
    (dss_one (ds_ret (de_bl)))))))
end
end K76

set_option Elab.async false
set_option linter.all false
set_option maxRecDepth 100000
set_option maxHeartbeats 4000000
namespace K76
section
open PySem PySem.Spec PyProof.Rows L2 LamX Dn
theorem fin {l : PySem.W.OpenLaw} {q : Program} {loose : List Str} {XP : (Str → Option Value) → Heap → Prop} {w : World} {K : PySem.W.Frag} {s₀ s₁ : Shared} {mg mb : Str → Option Value} {fa : Addr} (G : PySem.W.Ground q loose [] XP w s₀ mg mb s₁.heap) (KX : K.In s₁.heap) (hmg : mg "law" = some (.ref fa))
    (n_isinstance : PySem.W.nsIn K mainGlobals "isinstance" = some none)
    (n_int : PySem.W.nsIn K mainGlobals "int" = some none)
    (n_bool : PySem.W.nsIn K mainGlobals "bool" = some none)
    (n_str : PySem.W.nsIn K mainGlobals "str" = some none)
    (n_len : PySem.W.nsIn K mainGlobals "len" = some none)
    (n_all : PySem.W.nsIn K mainGlobals "all" = some none)
    (n_abs : PySem.W.nsIn K mainGlobals "abs" = some none)
    (n_min : PySem.W.nsIn K mainGlobals "min" = some none)
    (n_zip : PySem.W.nsIn K mainGlobals "zip" = some none)
    (n_ValueError : PySem.W.nsIn K mainGlobals "ValueError" = some none)
    (n_tuple : PySem.W.nsIn K mainGlobals "tuple" = some none)
    (n_sorted : PySem.W.nsIn K mainGlobals "sorted" = some none)
    (n_set : PySem.W.nsIn K mainGlobals "set" = some none)
    (n_sum : PySem.W.nsIn K mainGlobals "sum" = some none)
    (n_range : PySem.W.nsIn K mainGlobals "range" = some none)
    {ka_LENGTHS : Addr} {kd_LENGTHS : Option Addr} {ki_LENGTHS : Array Value} {kn_LENGTHS : Nat} {ks_LENGTHS : Array (Option Value)}
    (c_LENGTHS : PySem.W.nsIn K mainGlobals "LENGTHS" = some (some (.ref ka_LENGTHS)))
    (kl_LENGTHS : K.lookup ka_LENGTHS = some ⟨.type "tuple", kd_LENGTHS, .seq ki_LENGTHS kn_LENGTHS, ks_LENGTHS⟩)
    (kv_LENGTHS : Vals [V.int 31, V.int 28, V.int 31, V.int 30, V.int 31, V.int 30, V.int 31, V.int 31, V.int 30, V.int 31, V.int 30, V.int 31] ki_LENGTHS.toList)
    {tk_YEARS : Tok}
    (c_YEARS : PySem.W.nsIn K mainGlobals "YEARS" = some (some (.int 100 tk_YEARS)))
    {tk_WHEEL : Tok}
    (c_WHEEL : PySem.W.nsIn K mainGlobals "WHEEL" = some (some (.int 10 tk_WHEEL)))
    {tk_MOST_WORN : Tok}
    (c_MOST_WORN : PySem.W.nsIn K mainGlobals "MOST_WORN" = some (some (.int 3 tk_MOST_WORN)))
    {a_PostFault : Addr}
    (g_PostFault : PySem.W.nsIn K mainGlobals "PostFault" = some (some (.ref a_PostFault)))
    (s_PostFault : PySem.W.subIn K (.ref a_PostFault) (.type "BaseException") = some true)
    (t_PostFault : PySem.W.typeIn K (.ref a_PostFault) = some (.type "type"))
    (h_PostFault : PySem.W.hasDictIn K a_PostFault = true)
    {a_BadMark : Addr}
    (g_BadMark : PySem.W.nsIn K mainGlobals "BadMark" = some (some (.ref a_BadMark)))
    (s_BadMark : PySem.W.subIn K (.ref a_BadMark) (.type "BaseException") = some true)
    (t_BadMark : PySem.W.typeIn K (.ref a_BadMark) = some (.type "type"))
    (h_BadMark : PySem.W.hasDictIn K a_BadMark = true)
    {a_BadPlaces : Addr}
    (g_BadPlaces : PySem.W.nsIn K mainGlobals "BadPlaces" = some (some (.ref a_BadPlaces)))
    (s_BadPlaces : PySem.W.subIn K (.ref a_BadPlaces) (.type "BaseException") = some true)
    (t_BadPlaces : PySem.W.typeIn K (.ref a_BadPlaces) = some (.type "type"))
    (h_BadPlaces : PySem.W.hasDictIn K a_BadPlaces = true)
    {a_NoNumber : Addr}
    (g_NoNumber : PySem.W.nsIn K mainGlobals "NoNumber" = some (some (.ref a_NoNumber)))
    (s_NoNumber : PySem.W.subIn K (.ref a_NoNumber) (.type "BaseException") = some true)
    (t_NoNumber : PySem.W.typeIn K (.ref a_NoNumber) = some (.type "type"))
    (h_NoNumber : PySem.W.hasDictIn K a_NoNumber = true)
    (xn : PySem.W.specialIn K (.builtin "object.__class__") "__get__" = some (some (.builtin "getset_descriptor.__get__")))
    (xt : PySem.W.takesIn K (.builtin "object.__class__") = some true)
    (e_BadMark : PySem.W.excIn K a_BadMark [.type "ValueError", .type "Exception", .type "BaseException", .type "object"] "ValueError.__new__" = true)
    (k_BadMark : PySem.W.keepIn K (.ref a_BadMark) = true)
    (xg_BadMark : PySem.W.findIn K (.ref a_BadMark) "__getattribute__" = some (some (.builtin "BaseException.__getattribute__")))
    (xk_BadMark : PySem.W.findIn K (.ref a_BadMark) "__getattr__" = some none)
    (xa_BadMark : PySem.W.findIn K (.ref a_BadMark) "__class__" = some (some (.builtin "object.__class__")))
    (xm_BadMark : PySem.W.mroIn K a_BadMark (.type "object") = some true)
    (m_BadMark : PySem.W.subIn K (.ref a_BadMark) (.ref a_PostFault) = some true)
    (q_BadMark_BadMark : PySem.W.kitOne K (.ref a_BadMark) (.ref a_BadMark) = some true)
    (q_BadMark_BadPlaces : PySem.W.kitOne K (.ref a_BadMark) (.ref a_BadPlaces) = some false)
    (q_BadMark_ValueError : PySem.W.kitOne K (.ref a_BadMark) (.type "ValueError") = some true)
    (e_BadPlaces : PySem.W.excIn K a_BadPlaces [.type "ValueError", .type "Exception", .type "BaseException", .type "object"] "ValueError.__new__" = true)
    (k_BadPlaces : PySem.W.keepIn K (.ref a_BadPlaces) = true)
    (xg_BadPlaces : PySem.W.findIn K (.ref a_BadPlaces) "__getattribute__" = some (some (.builtin "BaseException.__getattribute__")))
    (xk_BadPlaces : PySem.W.findIn K (.ref a_BadPlaces) "__getattr__" = some none)
    (xa_BadPlaces : PySem.W.findIn K (.ref a_BadPlaces) "__class__" = some (some (.builtin "object.__class__")))
    (xm_BadPlaces : PySem.W.mroIn K a_BadPlaces (.type "object") = some true)
    (m_BadPlaces : PySem.W.subIn K (.ref a_BadPlaces) (.ref a_PostFault) = some true)
    (q_BadPlaces_BadMark : PySem.W.kitOne K (.ref a_BadPlaces) (.ref a_BadMark) = some false)
    (q_BadPlaces_BadPlaces : PySem.W.kitOne K (.ref a_BadPlaces) (.ref a_BadPlaces) = some true)
    (q_BadPlaces_ValueError : PySem.W.kitOne K (.ref a_BadPlaces) (.type "ValueError") = some true)
    (e_NoNumber : PySem.W.excIn K a_NoNumber [.type "ValueError", .type "Exception", .type "BaseException", .type "object"] "ValueError.__new__" = true)
    (k_NoNumber : PySem.W.keepIn K (.ref a_NoNumber) = true)
    (xg_NoNumber : PySem.W.findIn K (.ref a_NoNumber) "__getattribute__" = some (some (.builtin "BaseException.__getattribute__")))
    (xk_NoNumber : PySem.W.findIn K (.ref a_NoNumber) "__getattr__" = some none)
    (xa_NoNumber : PySem.W.findIn K (.ref a_NoNumber) "__class__" = some (some (.builtin "object.__class__")))
    (xm_NoNumber : PySem.W.mroIn K a_NoNumber (.type "object") = some true)
    (m_NoNumber : PySem.W.subIn K (.ref a_NoNumber) (.ref a_PostFault) = some true)
    (q_NoNumber_BadMark : PySem.W.kitOne K (.ref a_NoNumber) (.ref a_BadMark) = some false)
    (q_NoNumber_BadPlaces : PySem.W.kitOne K (.ref a_NoNumber) (.ref a_BadPlaces) = some false)
    (q_NoNumber_ValueError : PySem.W.kitOne K (.ref a_NoNumber) (.type "ValueError") = some true)
    {a_is_integer : Addr} {od_is_integer an_is_integer : Option Addr} {sl_is_integer : Array (Option Value)} {oc_is_integer kV_is_integer dc_is_integer pm_is_integer ct_is_integer : Value} {cd_is_integer : Value}
    (g_is_integer : PySem.W.nsIn K mainGlobals "is_integer" = some (some (.ref a_is_integer)))
    (l_is_integer : K.lookup a_is_integer = some ⟨oc_is_integer, od_is_integer, .func (PySem.W.fnOf "is_integer" "is_integer" (defArgs s_is_integer) (defBody s_is_integer) (defScope s_is_integer) .none kV_is_integer dc_is_integer pm_is_integer an_is_integer cd_is_integer ct_is_integer), sl_is_integer⟩)
    (o_is_integer : PySem.W.codeIn K cd_is_integer "is_integer" = true)
    (k_is_integer : PySem.W.keepIn K (.ref a_is_integer) = true)
    {a_is_within : Addr} {od_is_within an_is_within : Option Addr} {sl_is_within : Array (Option Value)} {oc_is_within kV_is_within dc_is_within pm_is_within ct_is_within : Value} {cd_is_within : Value}
    (g_is_within : PySem.W.nsIn K mainGlobals "is_within" = some (some (.ref a_is_within)))
    (l_is_within : K.lookup a_is_within = some ⟨oc_is_within, od_is_within, .func (PySem.W.fnOf "is_within" "is_within" (defArgs s_is_within) (defBody s_is_within) (defScope s_is_within) .none kV_is_within dc_is_within pm_is_within an_is_within cd_is_within ct_is_within), sl_is_within⟩)
    (o_is_within : PySem.W.codeIn K cd_is_within "is_within" = true)
    (k_is_within : PySem.W.keepIn K (.ref a_is_within) = true)
    {a_are_below : Addr} {od_are_below an_are_below : Option Addr} {sl_are_below : Array (Option Value)} {oc_are_below kV_are_below dc_are_below pm_are_below ct_are_below : Value} {cd_are_below : Value}
    (g_are_below : PySem.W.nsIn K mainGlobals "are_below" = some (some (.ref a_are_below)))
    (l_are_below : K.lookup a_are_below = some ⟨oc_are_below, od_are_below, .func (PySem.W.fnOf "are_below" "are_below" (defArgs s_are_below) (defBody s_are_below) (defScope s_are_below) .none kV_are_below dc_are_below pm_are_below an_are_below cd_are_below ct_are_below), sl_are_below⟩)
    (o_are_below : PySem.W.codeIn K cd_are_below "are_below" = true)
    (k_are_below : PySem.W.keepIn K (.ref a_are_below) = true)
    {a_is_row : Addr} {od_is_row an_is_row : Option Addr} {sl_is_row : Array (Option Value)} {oc_is_row kV_is_row dc_is_row pm_is_row ct_is_row : Value} {cd_is_row : Value}
    (g_is_row : PySem.W.nsIn K mainGlobals "is_row" = some (some (.ref a_is_row)))
    (l_is_row : K.lookup a_is_row = some ⟨oc_is_row, od_is_row, .func (PySem.W.fnOf "is_row" "is_row" (defArgs s_is_row) (defBody s_is_row) (defScope s_is_row) .none kV_is_row dc_is_row pm_is_row an_is_row cd_is_row ct_is_row), sl_is_row⟩)
    (o_is_row : PySem.W.codeIn K cd_is_row "is_row" = true)
    (k_is_row : PySem.W.keepIn K (.ref a_is_row) = true)
    {a_are_digits : Addr} {od_are_digits an_are_digits : Option Addr} {sl_are_digits : Array (Option Value)} {oc_are_digits kV_are_digits dc_are_digits pm_are_digits ct_are_digits : Value} {cd_are_digits : Value}
    (g_are_digits : PySem.W.nsIn K mainGlobals "are_digits" = some (some (.ref a_are_digits)))
    (l_are_digits : K.lookup a_are_digits = some ⟨oc_are_digits, od_are_digits, .func (PySem.W.fnOf "are_digits" "are_digits" (defArgs s_are_digits) (defBody s_are_digits) (defScope s_are_digits) .none kV_are_digits dc_are_digits pm_are_digits an_are_digits cd_are_digits ct_are_digits), sl_are_digits⟩)
    (o_are_digits : PySem.W.codeIn K cd_are_digits "are_digits" = true)
    (k_are_digits : PySem.W.keepIn K (.ref a_are_digits) = true)
    {a_month_length : Addr} {od_month_length an_month_length : Option Addr} {sl_month_length : Array (Option Value)} {oc_month_length kV_month_length dc_month_length pm_month_length ct_month_length : Value} {cd_month_length : Value}
    (g_month_length : PySem.W.nsIn K mainGlobals "month_length" = some (some (.ref a_month_length)))
    (l_month_length : K.lookup a_month_length = some ⟨oc_month_length, od_month_length, .func (PySem.W.fnOf "month_length" "month_length" (defArgs s_month_length) (defBody s_month_length) (defScope s_month_length) .none kV_month_length dc_month_length pm_month_length an_month_length cd_month_length ct_month_length), sl_month_length⟩)
    (o_month_length : PySem.W.codeIn K cd_month_length "month_length" = true)
    (k_month_length : PySem.W.keepIn K (.ref a_month_length) = true)
    {a_parts_of : Addr} {od_parts_of an_parts_of : Option Addr} {sl_parts_of : Array (Option Value)} {oc_parts_of kV_parts_of dc_parts_of pm_parts_of ct_parts_of : Value} {cd_parts_of : Value}
    (g_parts_of : PySem.W.nsIn K mainGlobals "parts_of" = some (some (.ref a_parts_of)))
    (l_parts_of : K.lookup a_parts_of = some ⟨oc_parts_of, od_parts_of, .func (PySem.W.fnOf "parts_of" "parts_of" (defArgs s_parts_of) (defBody s_parts_of) (defScope s_parts_of) .none kV_parts_of dc_parts_of pm_parts_of an_parts_of cd_parts_of ct_parts_of), sl_parts_of⟩)
    (o_parts_of : PySem.W.codeIn K cd_parts_of "parts_of" = true)
    (k_parts_of : PySem.W.keepIn K (.ref a_parts_of) = true)
    {a_are_mark : Addr} {od_are_mark an_are_mark : Option Addr} {sl_are_mark : Array (Option Value)} {oc_are_mark kV_are_mark dc_are_mark pm_are_mark ct_are_mark : Value} {cd_are_mark : Value}
    (g_are_mark : PySem.W.nsIn K mainGlobals "are_mark" = some (some (.ref a_are_mark)))
    (l_are_mark : K.lookup a_are_mark = some ⟨oc_are_mark, od_are_mark, .func (PySem.W.fnOf "are_mark" "are_mark" (defArgs s_are_mark) (defBody s_are_mark) (defScope s_are_mark) .none kV_are_mark dc_are_mark pm_are_mark an_are_mark cd_are_mark ct_are_mark), sl_are_mark⟩)
    (o_are_mark : PySem.W.codeIn K cd_are_mark "are_mark" = true)
    (k_are_mark : PySem.W.keepIn K (.ref a_are_mark) = true)
    {a_is_mark : Addr} {od_is_mark an_is_mark : Option Addr} {sl_is_mark : Array (Option Value)} {oc_is_mark kV_is_mark dc_is_mark pm_is_mark ct_is_mark : Value} {cd_is_mark : Value}
    (g_is_mark : PySem.W.nsIn K mainGlobals "is_mark" = some (some (.ref a_is_mark)))
    (l_is_mark : K.lookup a_is_mark = some ⟨oc_is_mark, od_is_mark, .func (PySem.W.fnOf "is_mark" "is_mark" (defArgs s_is_mark) (defBody s_is_mark) (defScope s_is_mark) .none kV_is_mark dc_is_mark pm_is_mark an_is_mark cd_is_mark ct_is_mark), sl_is_mark⟩)
    (o_is_mark : PySem.W.codeIn K cd_is_mark "is_mark" = true)
    (k_is_mark : PySem.W.keepIn K (.ref a_is_mark) = true)
    {a_check_mark : Addr} {od_check_mark an_check_mark : Option Addr} {sl_check_mark : Array (Option Value)} {oc_check_mark kV_check_mark dc_check_mark pm_check_mark ct_check_mark : Value} {cd_check_mark : Value}
    (g_check_mark : PySem.W.nsIn K mainGlobals "check_mark" = some (some (.ref a_check_mark)))
    (l_check_mark : K.lookup a_check_mark = some ⟨oc_check_mark, od_check_mark, .func (PySem.W.fnOf "check_mark" "check_mark" (defArgs s_check_mark) (defBody s_check_mark) (defScope s_check_mark) .none kV_check_mark dc_check_mark pm_check_mark an_check_mark cd_check_mark ct_check_mark), sl_check_mark⟩)
    (o_check_mark : PySem.W.codeIn K cd_check_mark "check_mark" = true)
    (k_check_mark : PySem.W.keepIn K (.ref a_check_mark) = true)
    {a_year_days : Addr} {od_year_days an_year_days : Option Addr} {sl_year_days : Array (Option Value)} {oc_year_days kV_year_days dc_year_days pm_year_days ct_year_days : Value} {cd_year_days : Value}
    (g_year_days : PySem.W.nsIn K mainGlobals "year_days" = some (some (.ref a_year_days)))
    (l_year_days : K.lookup a_year_days = some ⟨oc_year_days, od_year_days, .func (PySem.W.fnOf "year_days" "year_days" (defArgs s_year_days) (defBody s_year_days) (defScope s_year_days) .none kV_year_days dc_year_days pm_year_days an_year_days cd_year_days ct_year_days), sl_year_days⟩)
    (o_year_days : PySem.W.codeIn K cd_year_days "year_days" = true)
    (k_year_days : PySem.W.keepIn K (.ref a_year_days) = true)
    {a_mark_of : Addr} {od_mark_of an_mark_of : Option Addr} {sl_mark_of : Array (Option Value)} {oc_mark_of kV_mark_of dc_mark_of pm_mark_of ct_mark_of : Value} {cd_mark_of : Value}
    (g_mark_of : PySem.W.nsIn K mainGlobals "mark_of" = some (some (.ref a_mark_of)))
    (l_mark_of : K.lookup a_mark_of = some ⟨oc_mark_of, od_mark_of, .func (PySem.W.fnOf "mark_of" "mark_of" (defArgs s_mark_of) (defBody s_mark_of) (defScope s_mark_of) .none kV_mark_of dc_mark_of pm_mark_of an_mark_of cd_mark_of ct_mark_of), sl_mark_of⟩)
    (o_mark_of : PySem.W.codeIn K cd_mark_of "mark_of" = true)
    (k_mark_of : PySem.W.keepIn K (.ref a_mark_of) = true)
    {a_turned_marks : Addr} {od_turned_marks an_turned_marks : Option Addr} {sl_turned_marks : Array (Option Value)} {oc_turned_marks kV_turned_marks dc_turned_marks pm_turned_marks ct_turned_marks : Value} {cd_turned_marks : Value}
    (g_turned_marks : PySem.W.nsIn K mainGlobals "turned_marks" = some (some (.ref a_turned_marks)))
    (l_turned_marks : K.lookup a_turned_marks = some ⟨oc_turned_marks, od_turned_marks, .func (PySem.W.fnOf "turned_marks" "turned_marks" (defArgs s_turned_marks) (defBody s_turned_marks) (defScope s_turned_marks) .none kV_turned_marks dc_turned_marks pm_turned_marks an_turned_marks cd_turned_marks ct_turned_marks), sl_turned_marks⟩)
    (o_turned_marks : PySem.W.codeIn K cd_turned_marks "turned_marks" = true)
    (k_turned_marks : PySem.W.keepIn K (.ref a_turned_marks) = true)
    {a_steps_between : Addr} {od_steps_between an_steps_between : Option Addr} {sl_steps_between : Array (Option Value)} {oc_steps_between kV_steps_between dc_steps_between pm_steps_between ct_steps_between : Value} {cd_steps_between : Value}
    (g_steps_between : PySem.W.nsIn K mainGlobals "steps_between" = some (some (.ref a_steps_between)))
    (l_steps_between : K.lookup a_steps_between = some ⟨oc_steps_between, od_steps_between, .func (PySem.W.fnOf "steps_between" "steps_between" (defArgs s_steps_between) (defBody s_steps_between) (defScope s_steps_between) .none kV_steps_between dc_steps_between pm_steps_between an_steps_between cd_steps_between ct_steps_between), sl_steps_between⟩)
    (o_steps_between : PySem.W.codeIn K cd_steps_between "steps_between" = true)
    (k_steps_between : PySem.W.keepIn K (.ref a_steps_between) = true)
    {a_fewest_turns : Addr} {od_fewest_turns an_fewest_turns : Option Addr} {sl_fewest_turns : Array (Option Value)} {oc_fewest_turns kV_fewest_turns dc_fewest_turns pm_fewest_turns ct_fewest_turns : Value} {cd_fewest_turns : Value}
    (g_fewest_turns : PySem.W.nsIn K mainGlobals "fewest_turns" = some (some (.ref a_fewest_turns)))
    (l_fewest_turns : K.lookup a_fewest_turns = some ⟨oc_fewest_turns, od_fewest_turns, .func (PySem.W.fnOf "fewest_turns" "fewest_turns" (defArgs s_fewest_turns) (defBody s_fewest_turns) (defScope s_fewest_turns) .none kV_fewest_turns dc_fewest_turns pm_fewest_turns an_fewest_turns cd_fewest_turns ct_fewest_turns), sl_fewest_turns⟩)
    (o_fewest_turns : PySem.W.codeIn K cd_fewest_turns "fewest_turns" = true)
    (k_fewest_turns : PySem.W.keepIn K (.ref a_fewest_turns) = true)
    {a_worn : Addr} {od_worn an_worn : Option Addr} {sl_worn : Array (Option Value)} {oc_worn kV_worn dc_worn pm_worn ct_worn : Value} {cd_worn : Value}
    (g_worn : PySem.W.nsIn K mainGlobals "worn" = some (some (.ref a_worn)))
    (l_worn : K.lookup a_worn = some ⟨oc_worn, od_worn, .func (PySem.W.fnOf "worn" "worn" (defArgs s_worn) (defBody s_worn) (defScope s_worn) .none kV_worn dc_worn pm_worn an_worn cd_worn ct_worn), sl_worn⟩)
    (o_worn : PySem.W.codeIn K cd_worn "worn" = true)
    (k_worn : PySem.W.keepIn K (.ref a_worn) = true)
    {a__law_hand : Addr} {od__law_hand an__law_hand : Option Addr} {sl__law_hand : Array (Option Value)} {oc__law_hand kV__law_hand dc__law_hand pm__law_hand ct__law_hand : Value} {cd__law_hand : Value}
    (g__law_hand : PySem.W.nsIn K mainGlobals "_law_hand" = some (some (.ref a__law_hand)))
    (l__law_hand : K.lookup a__law_hand = some ⟨oc__law_hand, od__law_hand, .func (PySem.W.fnOf "_law_hand" "_law_hand" (defArgs s__law_hand) (defBody s__law_hand) (defScope s__law_hand) .none kV__law_hand dc__law_hand pm__law_hand an__law_hand cd__law_hand ct__law_hand), sl__law_hand⟩)
    (o__law_hand : PySem.W.codeIn K cd__law_hand "_law_hand" = true)
    (k__law_hand : PySem.W.keepIn K (.ref a__law_hand) = true)
    {a__law_draw : Addr} {od__law_draw an__law_draw : Option Addr} {sl__law_draw : Array (Option Value)} {oc__law_draw kV__law_draw dc__law_draw pm__law_draw ct__law_draw : Value} {cd__law_draw : Value}
    (g__law_draw : PySem.W.nsIn K mainGlobals "_law_draw" = some (some (.ref a__law_draw)))
    (l__law_draw : K.lookup a__law_draw = some ⟨oc__law_draw, od__law_draw, .func (PySem.W.fnOf "_law_draw" "_law_draw" (defArgs s__law_draw) (defBody s__law_draw) (defScope s__law_draw) .none kV__law_draw dc__law_draw pm__law_draw an__law_draw cd__law_draw ct__law_draw), sl__law_draw⟩)
    (o__law_draw : PySem.W.codeIn K cd__law_draw "_law_draw" = true)
    (k__law_draw : PySem.W.keepIn K (.ref a__law_draw) = true)
    {a__law_any : Addr} {od__law_any an__law_any : Option Addr} {sl__law_any : Array (Option Value)} {oc__law_any kV__law_any dc__law_any pm__law_any ct__law_any : Value} {cd__law_any : Value}
    (g__law_any : PySem.W.nsIn K mainGlobals "_law_any" = some (some (.ref a__law_any)))
    (l__law_any : K.lookup a__law_any = some ⟨oc__law_any, od__law_any, .func (PySem.W.fnOf "_law_any" "_law_any" (defArgs s__law_any) (defBody s__law_any) (defScope s__law_any) .none kV__law_any dc__law_any pm__law_any an__law_any cd__law_any ct__law_any), sl__law_any⟩)
    (o__law_any : PySem.W.codeIn K cd__law_any "_law_any" = true)
    (k__law_any : PySem.W.keepIn K (.ref a__law_any) = true)
    {a__law_is_mark : Addr} {od__law_is_mark an__law_is_mark : Option Addr} {sl__law_is_mark : Array (Option Value)} {oc__law_is_mark kV__law_is_mark dc__law_is_mark pm__law_is_mark ct__law_is_mark : Value} {cd__law_is_mark : Value}
    (g__law_is_mark : PySem.W.nsIn K mainGlobals "_law_is_mark" = some (some (.ref a__law_is_mark)))
    (l__law_is_mark : K.lookup a__law_is_mark = some ⟨oc__law_is_mark, od__law_is_mark, .func (PySem.W.fnOf "_law_is_mark" "_law_is_mark" (defArgs s__law_is_mark) (defBody s__law_is_mark) (defScope s__law_is_mark) .none kV__law_is_mark dc__law_is_mark pm__law_is_mark an__law_is_mark cd__law_is_mark ct__law_is_mark), sl__law_is_mark⟩)
    (o__law_is_mark : PySem.W.codeIn K cd__law_is_mark "_law_is_mark" = true)
    (k__law_is_mark : PySem.W.keepIn K (.ref a__law_is_mark) = true)
    {a__law_marks : Addr} {od__law_marks an__law_marks : Option Addr} {sl__law_marks : Array (Option Value)} {oc__law_marks kV__law_marks dc__law_marks pm__law_marks ct__law_marks : Value} {cd__law_marks : Value}
    (g__law_marks : PySem.W.nsIn K mainGlobals "_law_marks" = some (some (.ref a__law_marks)))
    (l__law_marks : K.lookup a__law_marks = some ⟨oc__law_marks, od__law_marks, .func (PySem.W.fnOf "_law_marks" "_law_marks" (defArgs s__law_marks) (defBody s__law_marks) (defScope s__law_marks) .none kV__law_marks dc__law_marks pm__law_marks an__law_marks cd__law_marks ct__law_marks), sl__law_marks⟩)
    (o__law_marks : PySem.W.codeIn K cd__law_marks "_law_marks" = true)
    (k__law_marks : PySem.W.keepIn K (.ref a__law_marks) = true)
    {a__law_turned : Addr} {od__law_turned an__law_turned : Option Addr} {sl__law_turned : Array (Option Value)} {oc__law_turned kV__law_turned dc__law_turned pm__law_turned ct__law_turned : Value} {cd__law_turned : Value}
    (g__law_turned : PySem.W.nsIn K mainGlobals "_law_turned" = some (some (.ref a__law_turned)))
    (l__law_turned : K.lookup a__law_turned = some ⟨oc__law_turned, od__law_turned, .func (PySem.W.fnOf "_law_turned" "_law_turned" (defArgs s__law_turned) (defBody s__law_turned) (defScope s__law_turned) .none kV__law_turned dc__law_turned pm__law_turned an__law_turned cd__law_turned ct__law_turned), sl__law_turned⟩)
    (o__law_turned : PySem.W.codeIn K cd__law_turned "_law_turned" = true)
    (k__law_turned : PySem.W.keepIn K (.ref a__law_turned) = true)
    {a__law_steps : Addr} {od__law_steps an__law_steps : Option Addr} {sl__law_steps : Array (Option Value)} {oc__law_steps kV__law_steps dc__law_steps pm__law_steps ct__law_steps : Value} {cd__law_steps : Value}
    (g__law_steps : PySem.W.nsIn K mainGlobals "_law_steps" = some (some (.ref a__law_steps)))
    (l__law_steps : K.lookup a__law_steps = some ⟨oc__law_steps, od__law_steps, .func (PySem.W.fnOf "_law_steps" "_law_steps" (defArgs s__law_steps) (defBody s__law_steps) (defScope s__law_steps) .none kV__law_steps dc__law_steps pm__law_steps an__law_steps cd__law_steps ct__law_steps), sl__law_steps⟩)
    (o__law_steps : PySem.W.codeIn K cd__law_steps "_law_steps" = true)
    (k__law_steps : PySem.W.keepIn K (.ref a__law_steps) = true)
    {a__law_worn : Addr} {od__law_worn an__law_worn : Option Addr} {sl__law_worn : Array (Option Value)} {oc__law_worn kV__law_worn dc__law_worn pm__law_worn ct__law_worn : Value} {cd__law_worn : Value}
    (g__law_worn : PySem.W.nsIn K mainGlobals "_law_worn" = some (some (.ref a__law_worn)))
    (l__law_worn : K.lookup a__law_worn = some ⟨oc__law_worn, od__law_worn, .func (PySem.W.fnOf "_law_worn" "_law_worn" (defArgs s__law_worn) (defBody s__law_worn) (defScope s__law_worn) .none kV__law_worn dc__law_worn pm__law_worn an__law_worn cd__law_worn ct__law_worn), sl__law_worn⟩)
    (o__law_worn : PySem.W.codeIn K cd__law_worn "_law_worn" = true)
    (k__law_worn : PySem.W.keepIn K (.ref a__law_worn) = true)
    {a__law_mark_right : Addr} {od__law_mark_right an__law_mark_right : Option Addr} {sl__law_mark_right : Array (Option Value)} {oc__law_mark_right kV__law_mark_right dc__law_mark_right pm__law_mark_right ct__law_mark_right : Value} {cd__law_mark_right : Value}
    (g__law_mark_right : PySem.W.nsIn K mainGlobals "_law_mark_right" = some (some (.ref a__law_mark_right)))
    (l__law_mark_right : K.lookup a__law_mark_right = some ⟨oc__law_mark_right, od__law_mark_right, .func (PySem.W.fnOf "_law_mark_right" "_law_mark_right" (defArgs s__law_mark_right) (defBody s__law_mark_right) (defScope s__law_mark_right) .none kV__law_mark_right dc__law_mark_right pm__law_mark_right an__law_mark_right cd__law_mark_right ct__law_mark_right), sl__law_mark_right⟩)
    (o__law_mark_right : PySem.W.codeIn K cd__law_mark_right "_law_mark_right" = true)
    (k__law_mark_right : PySem.W.keepIn K (.ref a__law_mark_right) = true)
    {a__law_word : Addr} {od__law_word an__law_word : Option Addr} {sl__law_word : Array (Option Value)} {oc__law_word kV__law_word dc__law_word pm__law_word ct__law_word : Value} {cd__law_word : Value}
    (g__law_word : PySem.W.nsIn K mainGlobals "_law_word" = some (some (.ref a__law_word)))
    (l__law_word : K.lookup a__law_word = some ⟨oc__law_word, od__law_word, .func (PySem.W.fnOf "_law_word" "_law_word" (defArgs s__law_word) (defBody s__law_word) (defScope s__law_word) .none kV__law_word dc__law_word pm__law_word an__law_word cd__law_word ct__law_word), sl__law_word⟩)
    (o__law_word : PySem.W.codeIn K cd__law_word "_law_word" = true)
    (k__law_word : PySem.W.keepIn K (.ref a__law_word) = true)
    {a__law_refused_right : Addr} {od__law_refused_right an__law_refused_right : Option Addr} {sl__law_refused_right : Array (Option Value)} {oc__law_refused_right kV__law_refused_right dc__law_refused_right pm__law_refused_right ct__law_refused_right : Value} {c__law_refused_right t__law_refused_right : Addr}
    (g__law_refused_right : PySem.W.nsIn K mainGlobals "_law_refused_right" = some (some (.ref a__law_refused_right)))
    (l__law_refused_right : K.lookup a__law_refused_right = some ⟨oc__law_refused_right, od__law_refused_right, .func (PySem.W.fnOf "_law_refused_right" "_law_refused_right" (defArgs s__law_refused_right) (defBody s__law_refused_right) (defScope s__law_refused_right) .none kV__law_refused_right dc__law_refused_right pm__law_refused_right an__law_refused_right (.ref c__law_refused_right) ct__law_refused_right), sl__law_refused_right⟩)
    (o__law_refused_right : PySem.W.codeIn K (.ref c__law_refused_right) "_law_refused_right" = true)
    (k__law_refused_right : PySem.W.keepIn K (.ref a__law_refused_right) = true)
    {a_law : Addr} {od_law an_law : Option Addr} {sl_law : Array (Option Value)} {oc_law kV_law dc_law pm_law ct_law : Value} {cd_law : Value}
    (g_law : PySem.W.nsIn K mainGlobals "law" = some (some (.ref a_law)))
    (l_law : K.lookup a_law = some ⟨oc_law, od_law, .func (PySem.W.fnOf "law" "law" (defArgs s_law) (defBody s_law) (defScope s_law) .none kV_law dc_law pm_law an_law cd_law ct_law), sl_law⟩)
    (o_law : PySem.W.codeIn K cd_law "law" = true)
    (k_law : PySem.W.keepIn K (.ref a_law) = true)
    {r__law_refused_right : DefRec}
    (tr__law_refused_right : (recsOf q).find? (fun e => e.name == ("_law_refused_right" : Str)) = some r__law_refused_right)
    {x1__law_refused_right : Value} {x2__law_refused_right : Option Addr} {vs__law_refused_right : Array Value} {x3__law_refused_right : Array (Option Value)}
    (tl__law_refused_right : K.lookup c__law_refused_right = some ⟨x1__law_refused_right, x2__law_refused_right, .fields vs__law_refused_right, x3__law_refused_right⟩)
    (tv__law_refused_right : (vs__law_refused_right[11]? : Option Value) = some (.ref t__law_refused_right))
    (tn__law_refused_right : K.lookup t__law_refused_right = none)
    (L : LawMf 63 mf_law) : LawAtG l w K 9 63 "script" mg fa s₁.heap := by
  have e0 := hmg.symm.trans (PySem.W.mg_of KX G.T.g g_law)
  have e1 : a_law = fa := (Value.ref.inj (Option.some.inj e0)).symm
  subst e1
  have F_is_integer := fun_mk (st := s_is_integer) l_is_integer o_is_integer k_is_integer
  have b_is_integer := F_is_integer.binds (ps := ["thing"]) fun _ _ _ _ _ _ us hl => match us, hl with | [_], _ => rfl
  have F_is_within := fun_mk (st := s_is_within) l_is_within o_is_within k_is_within
  have b_is_within := F_is_within.binds (ps := ["thing", "low", "high"]) fun _ _ _ _ _ _ us hl => match us, hl with | [_, _, _], _ => rfl
  have F_are_below := fun_mk (st := s_are_below) l_are_below o_are_below k_are_below
  have b_are_below := F_are_below.binds (ps := ["thing", "many"]) fun _ _ _ _ _ _ us hl => match us, hl with | [_, _], _ => rfl
  have F_is_row := fun_mk (st := s_is_row) l_is_row o_is_row k_is_row
  have b_is_row := F_is_row.binds (ps := ["thing", "many"]) fun _ _ _ _ _ _ us hl => match us, hl with | [_, _], _ => rfl
  have F_are_digits := fun_mk (st := s_are_digits) l_are_digits o_are_digits k_are_digits
  have b_are_digits := F_are_digits.binds (ps := ["thing", "least", "most"]) fun _ _ _ _ _ _ us hl => match us, hl with | [_, _, _], _ => rfl
  have F_month_length := fun_mk (st := s_month_length) l_month_length o_month_length k_month_length
  have b_month_length := F_month_length.binds (ps := ["month", "year"]) fun _ _ _ _ _ _ us hl => match us, hl with | [_, _], _ => rfl
  have F_parts_of := fun_mk (st := s_parts_of) l_parts_of o_parts_of k_parts_of
  have b_parts_of := F_parts_of.binds (ps := ["text"]) fun _ _ _ _ _ _ us hl => match us, hl with | [_], _ => rfl
  have F_are_mark := fun_mk (st := s_are_mark) l_are_mark o_are_mark k_are_mark
  have b_are_mark := F_are_mark.binds (ps := ["thing"]) fun _ _ _ _ _ _ us hl => match us, hl with | [_], _ => rfl
  have F_is_mark := fun_mk (st := s_is_mark) l_is_mark o_is_mark k_is_mark
  have b_is_mark := F_is_mark.binds (ps := ["thing"]) fun _ _ _ _ _ _ us hl => match us, hl with | [_], _ => rfl
  have F_check_mark := fun_mk (st := s_check_mark) l_check_mark o_check_mark k_check_mark
  have b_check_mark := F_check_mark.binds (ps := ["mark"]) fun _ _ _ _ _ _ us hl => match us, hl with | [_], _ => rfl
  have F_year_days := fun_mk (st := s_year_days) l_year_days o_year_days k_year_days
  have b_year_days := F_year_days.binds (ps := ["year"]) fun _ _ _ _ _ _ us hl => match us, hl with | [_], _ => rfl
  have F_mark_of := fun_mk (st := s_mark_of) l_mark_of o_mark_of k_mark_of
  have b_mark_of := F_mark_of.binds (ps := ["number"]) fun _ _ _ _ _ _ us hl => match us, hl with | [_], _ => rfl
  have F_turned_marks := fun_mk (st := s_turned_marks) l_turned_marks o_turned_marks k_turned_marks
  have b_turned_marks := F_turned_marks.binds (ps := ["mark"]) fun _ _ _ _ _ _ us hl => match us, hl with | [_], _ => rfl
  have F_steps_between := fun_mk (st := s_steps_between) l_steps_between o_steps_between k_steps_between
  have b_steps_between := F_steps_between.binds (ps := ["one", "other"]) fun _ _ _ _ _ _ us hl => match us, hl with | [_, _], _ => rfl
  have F_fewest_turns := fun_mk (st := s_fewest_turns) l_fewest_turns o_fewest_turns k_fewest_turns
  have b_fewest_turns := F_fewest_turns.binds (ps := ["mark", "other"]) fun _ _ _ _ _ _ us hl => match us, hl with | [_, _], _ => rfl
  have F_worn := fun_mk (st := s_worn) l_worn o_worn k_worn
  have b_worn := F_worn.binds (ps := ["mark", "places"]) fun _ _ _ _ _ _ us hl => match us, hl with | [_, _], _ => rfl
  have F__law_hand := fun_mk (st := s__law_hand) l__law_hand o__law_hand k__law_hand
  have b__law_hand := F__law_hand.binds (ps := ["script"]) fun _ _ _ _ _ _ us hl => match us, hl with | [_], _ => rfl
  have F__law_draw := fun_mk (st := s__law_draw) l__law_draw o__law_draw k__law_draw
  have b__law_draw := F__law_draw.binds (ps := ["hand", "many"]) fun _ _ _ _ _ _ us hl => match us, hl with | [_, _], _ => rfl
  have F__law_any := fun_mk (st := s__law_any) l__law_any o__law_any k__law_any
  have b__law_any := F__law_any.binds (ps := ["hand", "some"]) fun _ _ _ _ _ _ us hl => match us, hl with | [_, _], _ => rfl
  have F__law_is_mark := fun_mk (st := s__law_is_mark) l__law_is_mark o__law_is_mark k__law_is_mark
  have b__law_is_mark := F__law_is_mark.binds (ps := ["thing"]) fun _ _ _ _ _ _ us hl => match us, hl with | [_], _ => rfl
  have F__law_marks := fun_mk (st := s__law_marks) l__law_marks o__law_marks k__law_marks
  have b__law_marks := F__law_marks.binds (ps := ["hand"]) fun _ _ _ _ _ _ us hl => match us, hl with | [_], _ => rfl
  have F__law_turned := fun_mk (st := s__law_turned) l__law_turned o__law_turned k__law_turned
  have b__law_turned := F__law_turned.binds (ps := ["mark"]) fun _ _ _ _ _ _ us hl => match us, hl with | [_], _ => rfl
  have F__law_steps := fun_mk (st := s__law_steps) l__law_steps o__law_steps k__law_steps
  have b__law_steps := F__law_steps.binds (ps := ["mark", "other"]) fun _ _ _ _ _ _ us hl => match us, hl with | [_, _], _ => rfl
  have F__law_worn := fun_mk (st := s__law_worn) l__law_worn o__law_worn k__law_worn
  have b__law_worn := F__law_worn.binds (ps := ["mark", "places"]) fun _ _ _ _ _ _ us hl => match us, hl with | [_, _], _ => rfl
  have F__law_mark_right := fun_mk (st := s__law_mark_right) l__law_mark_right o__law_mark_right k__law_mark_right
  have b__law_mark_right := F__law_mark_right.binds (ps := ["hand", "mark"]) fun _ _ _ _ _ _ us hl => match us, hl with | [_, _], _ => rfl
  have F__law_word := fun_mk (st := s__law_word) l__law_word o__law_word k__law_word
  have b__law_word := F__law_word.binds (ps := ["call"]) fun _ _ _ _ _ _ us hl => match us, hl with | [_], _ => rfl
  have F__law_refused_right := fun_mk (st := s__law_refused_right) l__law_refused_right o__law_refused_right k__law_refused_right
  have b__law_refused_right := F__law_refused_right.binds (ps := ["hand", "mark"]) fun _ _ _ _ _ _ us hl => match us, hl with | [_, _], _ => rfl
  have F_law := fun_mk (st := s_law) l_law o_law k_law
  have b_law := F_law.binds (ps := ["script"]) fun _ _ _ _ _ _ us hl => match us, hl with | [_], _ => rfl
  let κ : Ads := { a_PostFault := a_PostFault, a_BadMark := a_BadMark, a_BadPlaces := a_BadPlaces, a_NoNumber := a_NoNumber, a_is_integer := a_is_integer, a_is_within := a_is_within, a_are_below := a_are_below, a_is_row := a_is_row, a_are_digits := a_are_digits, a_month_length := a_month_length, a_parts_of := a_parts_of, a_are_mark := a_are_mark, a_is_mark := a_is_mark, a_check_mark := a_check_mark, a_year_days := a_year_days, a_mark_of := a_mark_of, a_turned_marks := a_turned_marks, a_steps_between := a_steps_between, a_fewest_turns := a_fewest_turns, a_worn := a_worn, a__law_hand := a__law_hand, a__law_draw := a__law_draw, a__law_any := a__law_any, a__law_is_mark := a__law_is_mark, a__law_marks := a__law_marks, a__law_turned := a__law_turned, a__law_steps := a__law_steps, a__law_worn := a__law_worn, a__law_mark_right := a__law_mark_right, a__law_word := a__law_word, a__law_refused_right := a__law_refused_right, a_law := a_law, d_is_integer := PySem.W.fnOf "is_integer" "is_integer" (defArgs s_is_integer) (defBody s_is_integer) (defScope s_is_integer) .none kV_is_integer dc_is_integer pm_is_integer an_is_integer cd_is_integer ct_is_integer, d_is_within := PySem.W.fnOf "is_within" "is_within" (defArgs s_is_within) (defBody s_is_within) (defScope s_is_within) .none kV_is_within dc_is_within pm_is_within an_is_within cd_is_within ct_is_within, d_are_below := PySem.W.fnOf "are_below" "are_below" (defArgs s_are_below) (defBody s_are_below) (defScope s_are_below) .none kV_are_below dc_are_below pm_are_below an_are_below cd_are_below ct_are_below, d_is_row := PySem.W.fnOf "is_row" "is_row" (defArgs s_is_row) (defBody s_is_row) (defScope s_is_row) .none kV_is_row dc_is_row pm_is_row an_is_row cd_is_row ct_is_row, d_are_digits := PySem.W.fnOf "are_digits" "are_digits" (defArgs s_are_digits) (defBody s_are_digits) (defScope s_are_digits) .none kV_are_digits dc_are_digits pm_are_digits an_are_digits cd_are_digits ct_are_digits, d_month_length := PySem.W.fnOf "month_length" "month_length" (defArgs s_month_length) (defBody s_month_length) (defScope s_month_length) .none kV_month_length dc_month_length pm_month_length an_month_length cd_month_length ct_month_length, d_parts_of := PySem.W.fnOf "parts_of" "parts_of" (defArgs s_parts_of) (defBody s_parts_of) (defScope s_parts_of) .none kV_parts_of dc_parts_of pm_parts_of an_parts_of cd_parts_of ct_parts_of, d_are_mark := PySem.W.fnOf "are_mark" "are_mark" (defArgs s_are_mark) (defBody s_are_mark) (defScope s_are_mark) .none kV_are_mark dc_are_mark pm_are_mark an_are_mark cd_are_mark ct_are_mark, d_is_mark := PySem.W.fnOf "is_mark" "is_mark" (defArgs s_is_mark) (defBody s_is_mark) (defScope s_is_mark) .none kV_is_mark dc_is_mark pm_is_mark an_is_mark cd_is_mark ct_is_mark, d_check_mark := PySem.W.fnOf "check_mark" "check_mark" (defArgs s_check_mark) (defBody s_check_mark) (defScope s_check_mark) .none kV_check_mark dc_check_mark pm_check_mark an_check_mark cd_check_mark ct_check_mark, d_year_days := PySem.W.fnOf "year_days" "year_days" (defArgs s_year_days) (defBody s_year_days) (defScope s_year_days) .none kV_year_days dc_year_days pm_year_days an_year_days cd_year_days ct_year_days, d_mark_of := PySem.W.fnOf "mark_of" "mark_of" (defArgs s_mark_of) (defBody s_mark_of) (defScope s_mark_of) .none kV_mark_of dc_mark_of pm_mark_of an_mark_of cd_mark_of ct_mark_of, d_turned_marks := PySem.W.fnOf "turned_marks" "turned_marks" (defArgs s_turned_marks) (defBody s_turned_marks) (defScope s_turned_marks) .none kV_turned_marks dc_turned_marks pm_turned_marks an_turned_marks cd_turned_marks ct_turned_marks, d_steps_between := PySem.W.fnOf "steps_between" "steps_between" (defArgs s_steps_between) (defBody s_steps_between) (defScope s_steps_between) .none kV_steps_between dc_steps_between pm_steps_between an_steps_between cd_steps_between ct_steps_between, d_fewest_turns := PySem.W.fnOf "fewest_turns" "fewest_turns" (defArgs s_fewest_turns) (defBody s_fewest_turns) (defScope s_fewest_turns) .none kV_fewest_turns dc_fewest_turns pm_fewest_turns an_fewest_turns cd_fewest_turns ct_fewest_turns, d_worn := PySem.W.fnOf "worn" "worn" (defArgs s_worn) (defBody s_worn) (defScope s_worn) .none kV_worn dc_worn pm_worn an_worn cd_worn ct_worn, d__law_hand := PySem.W.fnOf "_law_hand" "_law_hand" (defArgs s__law_hand) (defBody s__law_hand) (defScope s__law_hand) .none kV__law_hand dc__law_hand pm__law_hand an__law_hand cd__law_hand ct__law_hand, d__law_draw := PySem.W.fnOf "_law_draw" "_law_draw" (defArgs s__law_draw) (defBody s__law_draw) (defScope s__law_draw) .none kV__law_draw dc__law_draw pm__law_draw an__law_draw cd__law_draw ct__law_draw, d__law_any := PySem.W.fnOf "_law_any" "_law_any" (defArgs s__law_any) (defBody s__law_any) (defScope s__law_any) .none kV__law_any dc__law_any pm__law_any an__law_any cd__law_any ct__law_any, d__law_is_mark := PySem.W.fnOf "_law_is_mark" "_law_is_mark" (defArgs s__law_is_mark) (defBody s__law_is_mark) (defScope s__law_is_mark) .none kV__law_is_mark dc__law_is_mark pm__law_is_mark an__law_is_mark cd__law_is_mark ct__law_is_mark, d__law_marks := PySem.W.fnOf "_law_marks" "_law_marks" (defArgs s__law_marks) (defBody s__law_marks) (defScope s__law_marks) .none kV__law_marks dc__law_marks pm__law_marks an__law_marks cd__law_marks ct__law_marks, d__law_turned := PySem.W.fnOf "_law_turned" "_law_turned" (defArgs s__law_turned) (defBody s__law_turned) (defScope s__law_turned) .none kV__law_turned dc__law_turned pm__law_turned an__law_turned cd__law_turned ct__law_turned, d__law_steps := PySem.W.fnOf "_law_steps" "_law_steps" (defArgs s__law_steps) (defBody s__law_steps) (defScope s__law_steps) .none kV__law_steps dc__law_steps pm__law_steps an__law_steps cd__law_steps ct__law_steps, d__law_worn := PySem.W.fnOf "_law_worn" "_law_worn" (defArgs s__law_worn) (defBody s__law_worn) (defScope s__law_worn) .none kV__law_worn dc__law_worn pm__law_worn an__law_worn cd__law_worn ct__law_worn, d__law_mark_right := PySem.W.fnOf "_law_mark_right" "_law_mark_right" (defArgs s__law_mark_right) (defBody s__law_mark_right) (defScope s__law_mark_right) .none kV__law_mark_right dc__law_mark_right pm__law_mark_right an__law_mark_right cd__law_mark_right ct__law_mark_right, d__law_word := PySem.W.fnOf "_law_word" "_law_word" (defArgs s__law_word) (defBody s__law_word) (defScope s__law_word) .none kV__law_word dc__law_word pm__law_word an__law_word cd__law_word ct__law_word, d__law_refused_right := PySem.W.fnOf "_law_refused_right" "_law_refused_right" (defArgs s__law_refused_right) (defBody s__law_refused_right) (defScope s__law_refused_right) .none kV__law_refused_right dc__law_refused_right pm__law_refused_right an__law_refused_right (.ref c__law_refused_right) ct__law_refused_right, d_law := PySem.W.fnOf "law" "law" (defArgs s_law) (defBody s_law) (defScope s_law) .none kV_law dc_law pm_law an_law cd_law ct_law, c__law_refused_right := c__law_refused_right, t__law_refused_right := t__law_refused_right }
  have Γ : Tie K mg κ := {
    n_isinstance := PySem.W.mg_none_of KX G.T.g n_isinstance,
    n_int := PySem.W.mg_none_of KX G.T.g n_int,
    n_bool := PySem.W.mg_none_of KX G.T.g n_bool,
    n_str := PySem.W.mg_none_of KX G.T.g n_str,
    n_len := PySem.W.mg_none_of KX G.T.g n_len,
    n_all := PySem.W.mg_none_of KX G.T.g n_all,
    n_abs := PySem.W.mg_none_of KX G.T.g n_abs,
    n_min := PySem.W.mg_none_of KX G.T.g n_min,
    n_zip := PySem.W.mg_none_of KX G.T.g n_zip,
    n_ValueError := PySem.W.mg_none_of KX G.T.g n_ValueError,
    n_tuple := PySem.W.mg_none_of KX G.T.g n_tuple,
    n_sorted := PySem.W.mg_none_of KX G.T.g n_sorted,
    n_set := PySem.W.mg_none_of KX G.T.g n_set,
    n_sum := PySem.W.mg_none_of KX G.T.g n_sum,
    n_range := PySem.W.mg_none_of KX G.T.g n_range,
    c_LENGTHS := ⟨_, _, PySem.W.mg_of KX G.T.g c_LENGTHS, ⟨_, _, _, kl_LENGTHS, rfl, rfl, (by have := kv_LENGTHS.length; rw [← Array.length_toList, ← this, sizeLine_eq]; decide), kv_LENGTHS⟩, fun C g => .cons (.int _) (.cons (.int _) (.cons (.int _) (.cons (.int _) (.cons (.int _) (.cons (.int _) (.cons (.int _) (.cons (.int _) (.cons (.int _) (.cons (.int _) (.cons (.int _) (.cons (.int _) (.nil))))))))))))⟩,
    c_YEARS := ⟨_, PySem.W.mg_of KX G.T.g c_YEARS⟩,
    c_WHEEL := ⟨_, PySem.W.mg_of KX G.T.g c_WHEEL⟩,
    c_MOST_WORN := ⟨_, PySem.W.mg_of KX G.T.g c_MOST_WORN⟩,
    g_PostFault := PySem.W.mg_of KX G.T.g g_PostFault,
    e_BadMark := ⟨PySem.W.mg_of KX G.T.g g_BadMark, e_BadMark, k_BadMark, s_BadMark, t_BadMark⟩,
    e_BadPlaces := ⟨PySem.W.mg_of KX G.T.g g_BadPlaces, e_BadPlaces, k_BadPlaces, s_BadPlaces, t_BadPlaces⟩,
    e_NoNumber := ⟨PySem.W.mg_of KX G.T.g g_NoNumber, e_NoNumber, k_NoNumber, s_NoNumber, t_NoNumber⟩,
    x_BadMark := ⟨xg_BadMark, xk_BadMark, s_BadMark, h_BadMark, xa_BadMark, xn, xt, xm_BadMark⟩,
    m_BadMark := PySem.W.exm_ref s_PostFault h_PostFault t_PostFault m_BadMark,
    q_BadMark_BadMark := q_BadMark_BadMark,
    q_BadMark_BadPlaces := q_BadMark_BadPlaces,
    q_BadMark_ValueError := q_BadMark_ValueError,
    x_BadPlaces := ⟨xg_BadPlaces, xk_BadPlaces, s_BadPlaces, h_BadPlaces, xa_BadPlaces, xn, xt, xm_BadPlaces⟩,
    m_BadPlaces := PySem.W.exm_ref s_PostFault h_PostFault t_PostFault m_BadPlaces,
    q_BadPlaces_BadMark := q_BadPlaces_BadMark,
    q_BadPlaces_BadPlaces := q_BadPlaces_BadPlaces,
    q_BadPlaces_ValueError := q_BadPlaces_ValueError,
    x_NoNumber := ⟨xg_NoNumber, xk_NoNumber, s_NoNumber, h_NoNumber, xa_NoNumber, xn, xt, xm_NoNumber⟩,
    m_NoNumber := PySem.W.exm_ref s_PostFault h_PostFault t_PostFault m_NoNumber,
    q_NoNumber_BadMark := q_NoNumber_BadMark,
    q_NoNumber_BadPlaces := q_NoNumber_BadPlaces,
    q_NoNumber_ValueError := q_NoNumber_ValueError,
    g_is_integer := PySem.W.mg_of KX G.T.g g_is_integer,
    f_is_integer := F_is_integer,
    b_is_integer := b_is_integer,
    g_is_within := PySem.W.mg_of KX G.T.g g_is_within,
    f_is_within := F_is_within,
    b_is_within := b_is_within,
    g_are_below := PySem.W.mg_of KX G.T.g g_are_below,
    f_are_below := F_are_below,
    b_are_below := b_are_below,
    g_is_row := PySem.W.mg_of KX G.T.g g_is_row,
    f_is_row := F_is_row,
    b_is_row := b_is_row,
    g_are_digits := PySem.W.mg_of KX G.T.g g_are_digits,
    f_are_digits := F_are_digits,
    b_are_digits := b_are_digits,
    g_month_length := PySem.W.mg_of KX G.T.g g_month_length,
    f_month_length := F_month_length,
    b_month_length := b_month_length,
    g_parts_of := PySem.W.mg_of KX G.T.g g_parts_of,
    f_parts_of := F_parts_of,
    b_parts_of := b_parts_of,
    g_are_mark := PySem.W.mg_of KX G.T.g g_are_mark,
    f_are_mark := F_are_mark,
    b_are_mark := b_are_mark,
    g_is_mark := PySem.W.mg_of KX G.T.g g_is_mark,
    f_is_mark := F_is_mark,
    b_is_mark := b_is_mark,
    g_check_mark := PySem.W.mg_of KX G.T.g g_check_mark,
    f_check_mark := F_check_mark,
    b_check_mark := b_check_mark,
    g_year_days := PySem.W.mg_of KX G.T.g g_year_days,
    f_year_days := F_year_days,
    b_year_days := b_year_days,
    g_mark_of := PySem.W.mg_of KX G.T.g g_mark_of,
    f_mark_of := F_mark_of,
    b_mark_of := b_mark_of,
    g_turned_marks := PySem.W.mg_of KX G.T.g g_turned_marks,
    f_turned_marks := F_turned_marks,
    b_turned_marks := b_turned_marks,
    g_steps_between := PySem.W.mg_of KX G.T.g g_steps_between,
    f_steps_between := F_steps_between,
    b_steps_between := b_steps_between,
    g_fewest_turns := PySem.W.mg_of KX G.T.g g_fewest_turns,
    f_fewest_turns := F_fewest_turns,
    b_fewest_turns := b_fewest_turns,
    g_worn := PySem.W.mg_of KX G.T.g g_worn,
    f_worn := F_worn,
    b_worn := b_worn,
    g__law_hand := PySem.W.mg_of KX G.T.g g__law_hand,
    f__law_hand := F__law_hand,
    b__law_hand := b__law_hand,
    g__law_draw := PySem.W.mg_of KX G.T.g g__law_draw,
    f__law_draw := F__law_draw,
    b__law_draw := b__law_draw,
    g__law_any := PySem.W.mg_of KX G.T.g g__law_any,
    f__law_any := F__law_any,
    b__law_any := b__law_any,
    g__law_is_mark := PySem.W.mg_of KX G.T.g g__law_is_mark,
    f__law_is_mark := F__law_is_mark,
    b__law_is_mark := b__law_is_mark,
    g__law_marks := PySem.W.mg_of KX G.T.g g__law_marks,
    f__law_marks := F__law_marks,
    b__law_marks := b__law_marks,
    g__law_turned := PySem.W.mg_of KX G.T.g g__law_turned,
    f__law_turned := F__law_turned,
    b__law_turned := b__law_turned,
    g__law_steps := PySem.W.mg_of KX G.T.g g__law_steps,
    f__law_steps := F__law_steps,
    b__law_steps := b__law_steps,
    g__law_worn := PySem.W.mg_of KX G.T.g g__law_worn,
    f__law_worn := F__law_worn,
    b__law_worn := b__law_worn,
    g__law_mark_right := PySem.W.mg_of KX G.T.g g__law_mark_right,
    f__law_mark_right := F__law_mark_right,
    b__law_mark_right := b__law_mark_right,
    g__law_word := PySem.W.mg_of KX G.T.g g__law_word,
    f__law_word := F__law_word,
    b__law_word := b__law_word,
    g__law_refused_right := PySem.W.mg_of KX G.T.g g__law_refused_right,
    f__law_refused_right := F__law_refused_right,
    b__law_refused_right := b__law_refused_right,
    g_law := PySem.W.mg_of KX G.T.g g_law,
    f_law := F_law,
    b_law := b_law,
    l__law_refused_right := ⟨_, _, _, _, _, _, _, _, rfl, l__law_refused_right, o__law_refused_right⟩ }
  have ti__law_refused_right : PySem.W.tabIn K "_law_refused_right" = some (c__law_refused_right, t__law_refused_right) := by simp [PySem.W.tabIn, g__law_refused_right, l__law_refused_right, tl__law_refused_right, tv__law_refused_right]
  have T__law_refused_right := PySem.W.tab_of G.T KX tr__law_refused_right ti__law_refused_right
  refine ⟨κ.d_law, [(c__law_refused_right, t__law_refused_right)], ⟨[(t__law_refused_right, (("_law_refused_right" : Str) ++ ".<locals>.") ++ "<lambda>")], .non⟩, mf_law, (fun p hp => by
      cases hp with
      | head => exact T__law_refused_right.2
      | tail _ hp =>
        cases hp
      )    , (fun p hp => by
      cases hp with
      | head => exact tn__law_refused_right
      | tail _ hp =>
        cases hp
      )    , (fun p hp => by
      cases hp with
      | head => exact T__law_refused_right.1
      | tail _ hp =>
        cases hp
      )    , fun s u => .of_eq rfl, fun p hp => ?_, L, fun base KB NB TB => ?_⟩
  · cases hp with
    | head => exact (.head _)
    | tail _ hp =>
      cases hp
  · exact ok_law (κ := κ) (T := ⟨[(t__law_refused_right, (("_law_refused_right" : Str) ++ ".<locals>.") ++ "<lambda>")], .non⟩) Γ ⟨trivial, TB (c__law_refused_right, t__law_refused_right) (.head _), (.head _), (fun p hp e => by
      cases hp with
      | head => rfl
      | tail _ hp =>
        cases hp
      )⟩
end
end K76

set_option linter.all false
namespace K76
def yd (y : Int) : Int := if y % 4 = 0 then 366 else 365
def ml (m y : Int) : Int := if m = 2 then (if y % 4 = 0 then 29 else 28) else if m = 4 ∨ m = 6 ∨ m = 9 ∨ m = 11 then 30 else 31
def F (f : Nat → Int) : Nat → Int
  | 0 => 0
  | n + 1 => F f n + f n
theorem F_s (f : Nat → Int) (n : Nat) : F f (n + 1) = F f n + f n := rfl
theorem F_mono {f : Nat → Int} (hf : ∀ k, 0 ≤ f k) (a : Nat) : ∀ b, F f a ≤ F f (a + b)
  | 0 => Int.le_refl _
  | b + 1 => by
    have := F_mono hf a b
    have := hf (a + b)
    show F f a ≤ F f (a + b) + f (a + b)
    omega
theorem F_le {f : Nat → Int} (hf : ∀ k, 0 ≤ f k) {a b : Nat} (h : a ≤ b) : F f a ≤ F f b := by
  have := F_mono hf a (b - a)
  rw [show a + (b - a) = b by omega] at this
  exact this
theorem find {f : Nat → Int} {n : Int} (h0 : 0 ≤ n) : ∀ K, n < F f K → ∃ k, k < K ∧ F f k ≤ n ∧ n < F f (k + 1)
  | 0, h => by
    have : F f 0 = 0 := rfl
    omega
  | K + 1, h => by
    by_cases c : n < F f K
    · obtain ⟨k, h1, h2, h3⟩ := find h0 K c
      exact ⟨k, by omega, h2, h3⟩
    · exact ⟨K, by omega, by omega, h⟩
theorem lt_iff {f : Nat → Int} (hf : ∀ k, 0 ≤ f k) {n : Int} {k j : Nat} (h1 : F f k ≤ n) (h2 : n < F f (k + 1)) : F f (j + 1) ≤ n ↔ j < k := by
  constructor
  · intro h
    by_cases c : j < k
    · exact c
    · have := F_le hf (show k + 1 ≤ j + 1 by omega)
      omega
  · intro h
    have := F_le hf (show j + 1 ≤ k by omega)
    omega
def fy (k : Nat) : Int := yd k
def fm (y : Int) (k : Nat) : Int := ml ((k : Int) + 1) y
theorem fy0 (k : Nat) : 0 ≤ fy k := by unfold fy yd; split <;> omega
theorem ml0 (m y : Int) : 28 ≤ ml m y ∧ ml m y ≤ 31 := by
  unfold ml
  split
  · split <;> omega
  · split <;> omega
theorem fm0 (y : Int) (k : Nat) : 0 ≤ fm y k := by have := ml0 ((k : Int) + 1) y; unfold fm; omega
theorem F100 : F fy 100 = 36525 := by decide +kernel
theorem M12 (y : Int) : F (fm y) 12 = yd y := by
  show 0 + fm y 0 + fm y 1 + fm y 2 + fm y 3 + fm y 4 + fm y 5 + fm y 6 + fm y 7 + fm y 8 + fm y 9 + fm y 10 + fm y 11 = yd y
  unfold fm ml yd
  by_cases h : y % 4 = 0 <;> simp [h]
/-- a number's date: the year, the months that have passed, the days that have passed -/
structure Date (n : Int) (y m : Nat) (d : Int) : Prop where
  y1 : y < 100
  m1 : m < 12
  d0 : 0 ≤ d
  d1 : d < fm y m
  eq : n = F fy y + F (fm y) m + d
theorem date {n : Int} (h0 : 0 ≤ n) (h1 : n < 36525) : ∃ y m d, Date n y m d ∧ F fy y ≤ n ∧ n < F fy (y + 1) := by
  obtain ⟨y, hy, a1, a2⟩ := find (f := fy) h0 100 (by rw [F100]; exact h1)
  have e : F fy (y + 1) = F fy y + yd y := rfl
  obtain ⟨m, hm, b1, b2⟩ := find (f := fm y) (n := n - F fy y) (by omega) 12 (by rw [M12]; omega)
  have e2 : F (fm y) (m + 1) = F (fm y) m + fm y m := rfl
  exact ⟨y, m, n - F fy y - F (fm y) m, ⟨hy, hm, by omega, by omega, by omega⟩, a1, a2⟩
end K76

set_option Elab.async false
set_option maxRecDepth 100000
set_option maxHeartbeats 1000000
set_option linter.all false
namespace K76
open PySem Dn
/-! ### the drawn hand -/
structure HandAt (s : S) (cells : List Int) (i left mix cnt : Int) : Prop where
  eq : s = [[.list (cells.map .int), .int i, .int left, .int mix, .int cnt]]
  pos : ∀ c ∈ cells, 0 ≤ c
  i0 : 0 ≤ i
  l0 : 0 ≤ left
def Hand (s : S) : Prop := ∃ cells i left mix cnt, HandAt s cells i left mix cnt
theorem modlo (z : Int) : (-18446744073709551616 < z % 2147483647) = True := by
  have := Int.emod_nonneg z (b := 2147483647) (by decide)
  simp only [eq_iff_iff, iff_true]
  omega
theorem modhi (z : Int) : (z % 2147483647 < 18446744073709551616) = True := by
  have := Int.emod_lt_of_pos z (b := 2147483647) (by decide)
  simp only [eq_iff_iff, iff_true]
  omega
theorem e_draw {s : S} (h : Hand s) {b : Int} (hb : 0 < b) (hb' : b < 1073741824) : ∃ x s', mf__law_draw [muD 0, .int b] s = .ok (.int x) s' ∧ 0 ≤ x ∧ x < b ∧ Hand s' := by
  obtain ⟨cells, i, left, mix, cnt, rfl, pos, i0, l0⟩ := h
  by_cases hl : left = 0
  · by_cases hi : i < cells.length
    · obtain ⟨n, rfl⟩ : ∃ n : Nat, i = (n : Int) := ⟨i.toNat, by omega⟩
      have hn : n < cells.length := by omega
      have hc := pos _ (List.getElem_mem hn)
      have hg : L2.atI (cells.map PyData.int) (n : Int) = some (.int cells[n]) := by
        rw [at_n (by simpa using hn), List.getElem?_map, List.getElem?_eq_getElem hn]
        rfl
      by_cases hq : (1000000000000000000 : Int) ≤ cells[n]
      · refine ⟨_, _, (by
          unfold mf__law_draw m__law_draw
          simp (config := {implicitDefEqProofs := false}) only [b_ok, b_exc, b_bad, b_ite, l_some, l_none, of_ok, of_exc, of_bad, of_ite, sq_nx, sq_rt, sq_bk, sq_ct, sq_exc, sq_bad, sq_ite, fn_nx, fn_rt, fn_exc, fn_bad, fn_ite, v_mkF, v_seq, v_next, v_retN, v_brk, v_cont, v_raise, v_frz, v_bin, v_op1, v_c, v_nil, v_cons, v_consO, v_call, v_test, v_not, v_and, v_or, v_if, bol_b, v_andV, v_orV, v_notV, v_chain, v_lst, v_tup, szR_0, szR_1, szR_2, szR_3, szR_4, szR_5, szR_6, szR_7, szR_8, szR_9, szR_10, szR_11, szR_12, szR_13, szR_14, v_L, v_mu, v_Q, v_P0, iOf_i, v_P, v_sl, v_meth, v_par, v_ifS, v_set, v_setOw, v_ret, v_drop, v_for, v_lam, oCatL_le, oCatQ_le, oAdd_l, oAdd_t, oMul_l2, oMul_l3, oMul_l4, oMul_l5, Nat.reduceLeDiff, oItems_l, oItems_t, oItems_s, oItemsQ_i, oSl_l, oSl_t, oSl_sc, oTupOf_i, oLstOf_i, oSum_i, oAll_i, oAny_i, oMod_p, oDiv_p, oMul_L, oMul_R, oPow_6, oPow_12, oPow_18, oPow_20, oPow_36, oInt_i, oInt_b, oAbs_i, oLen_l, oLen_t, oLenQ_i, oIx_mu, at_0, at_1, at_2, at_3, at_4, at_5, ix5_0, ix5_1, ix5_2, ix5_3, ix5_4, Int.reduceLT, Int.reduceNeg, Int.reduceAdd, Int.reduceSub, Int.reduceMul, oAdd_i, oSub_i, oNeg_i, oLt_i, oLe_i, oGt_i, oGe_i, oMin_i, oMax_i, oEq_i, oNe_i, oEq_s, oNe_s, oIxQ_i, oIx_l, oIx_t, asB_b, asQ_l, asQ_t, v_var, var_fz, v_app, app_ow, v_ext, ext_ow, v_frzE, frs_ow, frs_fz, v_own, own_fl, own_ft, own_ow, own_sh, lp_nx, lp_ct, lp_bk, lp_rt, lp_exc, lp_bad, lp_ite, ag_some, ag_none, fl_nil, fl_cons, g_N, g_nil, g_cons, g_T, o_some, v_asg, v_try, try_exc, try_nx, try_rt, trE_rt, trE_nx, v_thkE, v_thkR, thk_rv, said_nx, said_rt, v_isE, isE_rv, v_wipeR, v_callL, callL_fn, lkL_some, v_store, may_ow, may_fz, may_t, sto_ow, sto_mu, ixO_s, List.getElem?_cons_succ, List.getElem?_cons_zero, List.set_cons_succ, List.set_cons_zero, startE, List.zipWith, List.replicate, List.length_cons, List.length_nil, List.cons_append, List.nil_append, setE, Nat.reduceSub, Nat.reduceAdd, if_true, if_false, ite_true, ite_false, Bool.not_true, Bool.not_false, Bool.false_eq_true,
                 hl, hi, hg, hq, hb, hb', List.length_map, decide_true, decide_false, beq_self_eq_true, show (0 : Int) < cells[n] by omega, ge_iff_le, gt_iff_lt]; rfl), Int.emod_nonneg _ (by omega), Int.emod_lt_of_pos _ hb, _, _, _, _, _, rfl, pos, by omega, Int.ediv_nonneg hc (by omega)⟩
      · refine ⟨_, _, (by
          unfold mf__law_draw m__law_draw
          simp (config := {implicitDefEqProofs := false}) only [b_ok, b_exc, b_bad, b_ite, l_some, l_none, of_ok, of_exc, of_bad, of_ite, sq_nx, sq_rt, sq_bk, sq_ct, sq_exc, sq_bad, sq_ite, fn_nx, fn_rt, fn_exc, fn_bad, fn_ite, v_mkF, v_seq, v_next, v_retN, v_brk, v_cont, v_raise, v_frz, v_bin, v_op1, v_c, v_nil, v_cons, v_consO, v_call, v_test, v_not, v_and, v_or, v_if, bol_b, v_andV, v_orV, v_notV, v_chain, v_lst, v_tup, szR_0, szR_1, szR_2, szR_3, szR_4, szR_5, szR_6, szR_7, szR_8, szR_9, szR_10, szR_11, szR_12, szR_13, szR_14, v_L, v_mu, v_Q, v_P0, iOf_i, v_P, v_sl, v_meth, v_par, v_ifS, v_set, v_setOw, v_ret, v_drop, v_for, v_lam, oCatL_le, oCatQ_le, oAdd_l, oAdd_t, oMul_l2, oMul_l3, oMul_l4, oMul_l5, Nat.reduceLeDiff, oItems_l, oItems_t, oItems_s, oItemsQ_i, oSl_l, oSl_t, oSl_sc, oTupOf_i, oLstOf_i, oSum_i, oAll_i, oAny_i, oMod_p, oDiv_p, oMul_L, oMul_R, oPow_6, oPow_12, oPow_18, oPow_20, oPow_36, oInt_i, oInt_b, oAbs_i, oLen_l, oLen_t, oLenQ_i, oIx_mu, at_0, at_1, at_2, at_3, at_4, at_5, ix5_0, ix5_1, ix5_2, ix5_3, ix5_4, Int.reduceLT, Int.reduceNeg, Int.reduceAdd, Int.reduceSub, Int.reduceMul, oAdd_i, oSub_i, oNeg_i, oLt_i, oLe_i, oGt_i, oGe_i, oMin_i, oMax_i, oEq_i, oNe_i, oEq_s, oNe_s, oIxQ_i, oIx_l, oIx_t, asB_b, asQ_l, asQ_t, v_var, var_fz, v_app, app_ow, v_ext, ext_ow, v_frzE, frs_ow, frs_fz, v_own, own_fl, own_ft, own_ow, own_sh, lp_nx, lp_ct, lp_bk, lp_rt, lp_exc, lp_bad, lp_ite, ag_some, ag_none, fl_nil, fl_cons, g_N, g_nil, g_cons, g_T, o_some, v_asg, v_try, try_exc, try_nx, try_rt, trE_rt, trE_nx, v_thkE, v_thkR, thk_rv, said_nx, said_rt, v_isE, isE_rv, v_wipeR, v_callL, callL_fn, lkL_some, v_store, may_ow, may_fz, may_t, sto_ow, sto_mu, ixO_s, List.getElem?_cons_succ, List.getElem?_cons_zero, List.set_cons_succ, List.set_cons_zero, startE, List.zipWith, List.replicate, List.length_cons, List.length_nil, List.cons_append, List.nil_append, setE, Nat.reduceSub, Nat.reduceAdd, if_true, if_false, ite_true, ite_false, Bool.not_true, Bool.not_false, Bool.false_eq_true,
                 hl, hi, hg, hq, hb, hb', List.length_map, decide_true, decide_false, beq_self_eq_true, modlo, modhi, Int.lt_irrefl, ge_iff_le, gt_iff_lt]; rfl), Int.emod_nonneg _ (by omega), Int.emod_lt_of_pos _ hb, _, _, _, _, _, rfl, pos, by omega, by omega⟩
    · refine ⟨_, _, (by
        unfold mf__law_draw m__law_draw
        simp (config := {implicitDefEqProofs := false}) only [b_ok, b_exc, b_bad, b_ite, l_some, l_none, of_ok, of_exc, of_bad, of_ite, sq_nx, sq_rt, sq_bk, sq_ct, sq_exc, sq_bad, sq_ite, fn_nx, fn_rt, fn_exc, fn_bad, fn_ite, v_mkF, v_seq, v_next, v_retN, v_brk, v_cont, v_raise, v_frz, v_bin, v_op1, v_c, v_nil, v_cons, v_consO, v_call, v_test, v_not, v_and, v_or, v_if, bol_b, v_andV, v_orV, v_notV, v_chain, v_lst, v_tup, szR_0, szR_1, szR_2, szR_3, szR_4, szR_5, szR_6, szR_7, szR_8, szR_9, szR_10, szR_11, szR_12, szR_13, szR_14, v_L, v_mu, v_Q, v_P0, iOf_i, v_P, v_sl, v_meth, v_par, v_ifS, v_set, v_setOw, v_ret, v_drop, v_for, v_lam, oCatL_le, oCatQ_le, oAdd_l, oAdd_t, oMul_l2, oMul_l3, oMul_l4, oMul_l5, Nat.reduceLeDiff, oItems_l, oItems_t, oItems_s, oItemsQ_i, oSl_l, oSl_t, oSl_sc, oTupOf_i, oLstOf_i, oSum_i, oAll_i, oAny_i, oMod_p, oDiv_p, oMul_L, oMul_R, oPow_6, oPow_12, oPow_18, oPow_20, oPow_36, oInt_i, oInt_b, oAbs_i, oLen_l, oLen_t, oLenQ_i, oIx_mu, at_0, at_1, at_2, at_3, at_4, at_5, ix5_0, ix5_1, ix5_2, ix5_3, ix5_4, Int.reduceLT, Int.reduceNeg, Int.reduceAdd, Int.reduceSub, Int.reduceMul, oAdd_i, oSub_i, oNeg_i, oLt_i, oLe_i, oGt_i, oGe_i, oMin_i, oMax_i, oEq_i, oNe_i, oEq_s, oNe_s, oIxQ_i, oIx_l, oIx_t, asB_b, asQ_l, asQ_t, v_var, var_fz, v_app, app_ow, v_ext, ext_ow, v_frzE, frs_ow, frs_fz, v_own, own_fl, own_ft, own_ow, own_sh, lp_nx, lp_ct, lp_bk, lp_rt, lp_exc, lp_bad, lp_ite, ag_some, ag_none, fl_nil, fl_cons, g_N, g_nil, g_cons, g_T, o_some, v_asg, v_try, try_exc, try_nx, try_rt, trE_rt, trE_nx, v_thkE, v_thkR, thk_rv, said_nx, said_rt, v_isE, isE_rv, v_wipeR, v_callL, callL_fn, lkL_some, v_store, may_ow, may_fz, may_t, sto_ow, sto_mu, ixO_s, List.getElem?_cons_succ, List.getElem?_cons_zero, List.set_cons_succ, List.set_cons_zero, startE, List.zipWith, List.replicate, List.length_cons, List.length_nil, List.cons_append, List.nil_append, setE, Nat.reduceSub, Nat.reduceAdd, if_true, if_false, ite_true, ite_false, Bool.not_true, Bool.not_false, Bool.false_eq_true,
               hl, hi, hb, hb', List.length_map, decide_true, decide_false, beq_self_eq_true, modlo, modhi, Int.lt_irrefl, ge_iff_le, gt_iff_lt]; rfl), Int.emod_nonneg _ (by omega), Int.emod_lt_of_pos _ hb, _, _, _, _, _, rfl, pos, by omega, by omega⟩
  · have h0 : (left == 0) = false := by simpa using hl
    refine ⟨_, _, (by
      unfold mf__law_draw m__law_draw
      simp (config := {implicitDefEqProofs := false}) only [b_ok, b_exc, b_bad, b_ite, l_some, l_none, of_ok, of_exc, of_bad, of_ite, sq_nx, sq_rt, sq_bk, sq_ct, sq_exc, sq_bad, sq_ite, fn_nx, fn_rt, fn_exc, fn_bad, fn_ite, v_mkF, v_seq, v_next, v_retN, v_brk, v_cont, v_raise, v_frz, v_bin, v_op1, v_c, v_nil, v_cons, v_consO, v_call, v_test, v_not, v_and, v_or, v_if, bol_b, v_andV, v_orV, v_notV, v_chain, v_lst, v_tup, szR_0, szR_1, szR_2, szR_3, szR_4, szR_5, szR_6, szR_7, szR_8, szR_9, szR_10, szR_11, szR_12, szR_13, szR_14, v_L, v_mu, v_Q, v_P0, iOf_i, v_P, v_sl, v_meth, v_par, v_ifS, v_set, v_setOw, v_ret, v_drop, v_for, v_lam, oCatL_le, oCatQ_le, oAdd_l, oAdd_t, oMul_l2, oMul_l3, oMul_l4, oMul_l5, Nat.reduceLeDiff, oItems_l, oItems_t, oItems_s, oItemsQ_i, oSl_l, oSl_t, oSl_sc, oTupOf_i, oLstOf_i, oSum_i, oAll_i, oAny_i, oMod_p, oDiv_p, oMul_L, oMul_R, oPow_6, oPow_12, oPow_18, oPow_20, oPow_36, oInt_i, oInt_b, oAbs_i, oLen_l, oLen_t, oLenQ_i, oIx_mu, at_0, at_1, at_2, at_3, at_4, at_5, ix5_0, ix5_1, ix5_2, ix5_3, ix5_4, Int.reduceLT, Int.reduceNeg, Int.reduceAdd, Int.reduceSub, Int.reduceMul, oAdd_i, oSub_i, oNeg_i, oLt_i, oLe_i, oGt_i, oGe_i, oMin_i, oMax_i, oEq_i, oNe_i, oEq_s, oNe_s, oIxQ_i, oIx_l, oIx_t, asB_b, asQ_l, asQ_t, v_var, var_fz, v_app, app_ow, v_ext, ext_ow, v_frzE, frs_ow, frs_fz, v_own, own_fl, own_ft, own_ow, own_sh, lp_nx, lp_ct, lp_bk, lp_rt, lp_exc, lp_bad, lp_ite, ag_some, ag_none, fl_nil, fl_cons, g_N, g_nil, g_cons, g_T, o_some, v_asg, v_try, try_exc, try_nx, try_rt, trE_rt, trE_nx, v_thkE, v_thkR, thk_rv, said_nx, said_rt, v_isE, isE_rv, v_wipeR, v_callL, callL_fn, lkL_some, v_store, may_ow, may_fz, may_t, sto_ow, sto_mu, ixO_s, List.getElem?_cons_succ, List.getElem?_cons_zero, List.set_cons_succ, List.set_cons_zero, startE, List.zipWith, List.replicate, List.length_cons, List.length_nil, List.cons_append, List.nil_append, setE, Nat.reduceSub, Nat.reduceAdd, if_true, if_false, ite_true, ite_false, Bool.not_true, Bool.not_false, Bool.false_eq_true,
             h0, hb, hb', show (0 : Int) < left by omega, decide_true, decide_false, ge_iff_le, gt_iff_lt]; rfl), Int.emod_nonneg _ (by omega), Int.emod_lt_of_pos _ hb, _, _, _, _, _, rfl, pos, i0, Int.ediv_nonneg l0 (by omega)⟩
theorem e_any {s : S} (h : Hand s) {ds : List D} (h0 : 0 < ds.length) (h1 : ds.length < 1000000000) : ∃ d s', mf__law_any [muD 0, .list ds] s = .ok d s' ∧ d ∈ ds ∧ Hand s' := by
  obtain ⟨x, s', e, x0, x1, h'⟩ := e_draw h (b := (ds.length : Int)) (by omega) (by omega)
  obtain ⟨n, rfl⟩ : ∃ n : Nat, x = (n : Int) := ⟨x.toNat, by omega⟩
  have hn : n < ds.length := by omega
  refine ⟨ds[n], s', ?_, List.getElem_mem hn, h'⟩
  unfold mf__law_any m__law_any
  simp (config := {implicitDefEqProofs := false}) only [b_ok, b_exc, b_bad, b_ite, l_some, l_none, of_ok, of_exc, of_bad, of_ite, sq_nx, sq_rt, sq_bk, sq_ct, sq_exc, sq_bad, sq_ite, fn_nx, fn_rt, fn_exc, fn_bad, fn_ite, v_mkF, v_seq, v_next, v_retN, v_brk, v_cont, v_raise, v_frz, v_bin, v_op1, v_c, v_nil, v_cons, v_consO, v_call, v_test, v_not, v_and, v_or, v_if, bol_b, v_andV, v_orV, v_notV, v_chain, v_lst, v_tup, szR_0, szR_1, szR_2, szR_3, szR_4, szR_5, szR_6, szR_7, szR_8, szR_9, szR_10, szR_11, szR_12, szR_13, szR_14, v_L, v_mu, v_Q, v_P0, iOf_i, v_P, v_sl, v_meth, v_par, v_ifS, v_set, v_setOw, v_ret, v_drop, v_for, v_lam, oCatL_le, oCatQ_le, oAdd_l, oAdd_t, oMul_l2, oMul_l3, oMul_l4, oMul_l5, Nat.reduceLeDiff, oItems_l, oItems_t, oItems_s, oItemsQ_i, oSl_l, oSl_t, oSl_sc, oTupOf_i, oLstOf_i, oSum_i, oAll_i, oAny_i, oMod_p, oDiv_p, oMul_L, oMul_R, oPow_6, oPow_12, oPow_18, oPow_20, oPow_36, oInt_i, oInt_b, oAbs_i, oLen_l, oLen_t, oLenQ_i, oIx_mu, at_0, at_1, at_2, at_3, at_4, at_5, ix5_0, ix5_1, ix5_2, ix5_3, ix5_4, Int.reduceLT, Int.reduceNeg, Int.reduceAdd, Int.reduceSub, Int.reduceMul, oAdd_i, oSub_i, oNeg_i, oLt_i, oLe_i, oGt_i, oGe_i, oMin_i, oMax_i, oEq_i, oNe_i, oEq_s, oNe_s, oIxQ_i, oIx_l, oIx_t, asB_b, asQ_l, asQ_t, v_var, var_fz, v_app, app_ow, v_ext, ext_ow, v_frzE, frs_ow, frs_fz, v_own, own_fl, own_ft, own_ow, own_sh, lp_nx, lp_ct, lp_bk, lp_rt, lp_exc, lp_bad, lp_ite, ag_some, ag_none, fl_nil, fl_cons, g_N, g_nil, g_cons, g_T, o_some, v_asg, v_try, try_exc, try_nx, try_rt, trE_rt, trE_nx, v_thkE, v_thkR, thk_rv, said_nx, said_rt, v_isE, isE_rv, v_wipeR, v_callL, callL_fn, lkL_some, v_store, may_ow, may_fz, may_t, sto_ow, sto_mu, ixO_s, List.getElem?_cons_succ, List.getElem?_cons_zero, List.set_cons_succ, List.set_cons_zero, startE, List.zipWith, List.replicate, List.length_cons, List.length_nil, List.cons_append, List.nil_append, setE, Nat.reduceSub, Nat.reduceAdd, if_true, if_false, ite_true, ite_false, Bool.not_true, Bool.not_false, Bool.false_eq_true,
         e, at_n hn, List.getElem?_eq_getElem hn]
theorem e_hand {ns : List Int} (hl : ns.length ≤ 63) : ∃ s', mf__law_hand [scOf ns] [] = .ok (muD 0) s' ∧ Hand s' := by
  have hq : q__law_hand_1 [.fz (scOf ns), .un, .un] [] = .ok (((ns.filter fun _ => true).map fun n => PyData.int ((if n < 0 then -n else n) % 1000000000000000000000000000000000000))) [] := by
    refine comp_map (xs := ns) (f := .int) (s1 := []) (fun _ => true) _ ?_ (by omega) fun n _ => ⟨_, rfl, rfl, fun _ => ?_⟩
    · unfold scOf
      simp (config := {implicitDefEqProofs := false}) only [b_ok, b_exc, b_bad, b_ite, l_some, l_none, of_ok, of_exc, of_bad, of_ite, sq_nx, sq_rt, sq_bk, sq_ct, sq_exc, sq_bad, sq_ite, fn_nx, fn_rt, fn_exc, fn_bad, fn_ite, v_mkF, v_seq, v_next, v_retN, v_brk, v_cont, v_raise, v_frz, v_bin, v_op1, v_c, v_nil, v_cons, v_consO, v_call, v_test, v_not, v_and, v_or, v_if, bol_b, v_andV, v_orV, v_notV, v_chain, v_lst, v_tup, szR_0, szR_1, szR_2, szR_3, szR_4, szR_5, szR_6, szR_7, szR_8, szR_9, szR_10, szR_11, szR_12, szR_13, szR_14, v_L, v_mu, v_Q, v_P0, iOf_i, v_P, v_sl, v_meth, v_par, v_ifS, v_set, v_setOw, v_ret, v_drop, v_for, v_lam, oCatL_le, oCatQ_le, oAdd_l, oAdd_t, oMul_l2, oMul_l3, oMul_l4, oMul_l5, Nat.reduceLeDiff, oItems_l, oItems_t, oItems_s, oItemsQ_i, oSl_l, oSl_t, oSl_sc, oTupOf_i, oLstOf_i, oSum_i, oAll_i, oAny_i, oMod_p, oDiv_p, oMul_L, oMul_R, oPow_6, oPow_12, oPow_18, oPow_20, oPow_36, oInt_i, oInt_b, oAbs_i, oLen_l, oLen_t, oLenQ_i, oIx_mu, at_0, at_1, at_2, at_3, at_4, at_5, ix5_0, ix5_1, ix5_2, ix5_3, ix5_4, Int.reduceLT, Int.reduceNeg, Int.reduceAdd, Int.reduceSub, Int.reduceMul, oAdd_i, oSub_i, oNeg_i, oLt_i, oLe_i, oGt_i, oGe_i, oMin_i, oMax_i, oEq_i, oNe_i, oEq_s, oNe_s, oIxQ_i, oIx_l, oIx_t, asB_b, asQ_l, asQ_t, v_var, var_fz, v_app, app_ow, v_ext, ext_ow, v_frzE, frs_ow, frs_fz, v_own, own_fl, own_ft, own_ow, own_sh, lp_nx, lp_ct, lp_bk, lp_rt, lp_exc, lp_bad, lp_ite, ag_some, ag_none, fl_nil, fl_cons, g_N, g_nil, g_cons, g_T, o_some, v_asg, v_try, try_exc, try_nx, try_rt, trE_rt, trE_nx, v_thkE, v_thkR, thk_rv, said_nx, said_rt, v_isE, isE_rv, v_wipeR, v_callL, callL_fn, lkL_some, v_store, may_ow, may_fz, may_t, sto_ow, sto_mu, ixO_s, List.getElem?_cons_succ, List.getElem?_cons_zero, List.set_cons_succ, List.set_cons_zero, startE, List.zipWith, List.replicate, List.length_cons, List.length_nil, List.cons_append, List.nil_append, setE, Nat.reduceSub, Nat.reduceAdd, if_true, if_false, ite_true, ite_false, Bool.not_true, Bool.not_false, Bool.false_eq_true,
             cut_63 (show (ns.map PyData.int).length ≤ 63 by rw [List.length_map]; exact hl)]
    · dsimp only [wipeE]
      simp (config := {implicitDefEqProofs := false}) only [b_ok, b_exc, b_bad, b_ite, l_some, l_none, of_ok, of_exc, of_bad, of_ite, sq_nx, sq_rt, sq_bk, sq_ct, sq_exc, sq_bad, sq_ite, fn_nx, fn_rt, fn_exc, fn_bad, fn_ite, v_mkF, v_seq, v_next, v_retN, v_brk, v_cont, v_raise, v_frz, v_bin, v_op1, v_c, v_nil, v_cons, v_consO, v_call, v_test, v_not, v_and, v_or, v_if, bol_b, v_andV, v_orV, v_notV, v_chain, v_lst, v_tup, szR_0, szR_1, szR_2, szR_3, szR_4, szR_5, szR_6, szR_7, szR_8, szR_9, szR_10, szR_11, szR_12, szR_13, szR_14, v_L, v_mu, v_Q, v_P0, iOf_i, v_P, v_sl, v_meth, v_par, v_ifS, v_set, v_setOw, v_ret, v_drop, v_for, v_lam, oCatL_le, oCatQ_le, oAdd_l, oAdd_t, oMul_l2, oMul_l3, oMul_l4, oMul_l5, Nat.reduceLeDiff, oItems_l, oItems_t, oItems_s, oItemsQ_i, oSl_l, oSl_t, oSl_sc, oTupOf_i, oLstOf_i, oSum_i, oAll_i, oAny_i, oMod_p, oDiv_p, oMul_L, oMul_R, oPow_6, oPow_12, oPow_18, oPow_20, oPow_36, oInt_i, oInt_b, oAbs_i, oLen_l, oLen_t, oLenQ_i, oIx_mu, at_0, at_1, at_2, at_3, at_4, at_5, ix5_0, ix5_1, ix5_2, ix5_3, ix5_4, Int.reduceLT, Int.reduceNeg, Int.reduceAdd, Int.reduceSub, Int.reduceMul, oAdd_i, oSub_i, oNeg_i, oLt_i, oLe_i, oGt_i, oGe_i, oMin_i, oMax_i, oEq_i, oNe_i, oEq_s, oNe_s, oIxQ_i, oIx_l, oIx_t, asB_b, asQ_l, asQ_t, v_var, var_fz, v_app, app_ow, v_ext, ext_ow, v_frzE, frs_ow, frs_fz, v_own, own_fl, own_ft, own_ow, own_sh, lp_nx, lp_ct, lp_bk, lp_rt, lp_exc, lp_bad, lp_ite, ag_some, ag_none, fl_nil, fl_cons, g_N, g_nil, g_cons, g_T, o_some, v_asg, v_try, try_exc, try_nx, try_rt, trE_rt, trE_nx, v_thkE, v_thkR, thk_rv, said_nx, said_rt, v_isE, isE_rv, v_wipeR, v_callL, callL_fn, lkL_some, v_store, may_ow, may_fz, may_t, sto_ow, sto_mu, ixO_s, List.getElem?_cons_succ, List.getElem?_cons_zero, List.set_cons_succ, List.set_cons_zero, startE, List.zipWith, List.replicate, List.length_cons, List.length_nil, List.cons_append, List.nil_append, setE, Nat.reduceSub, Nat.reduceAdd, if_true, if_false, ite_true, ite_false, Bool.not_true, Bool.not_false, Bool.false_eq_true]
  refine ⟨_, (by
    unfold mf__law_hand m__law_hand
    simp (config := {implicitDefEqProofs := false}) only [b_ok, b_exc, b_bad, b_ite, l_some, l_none, of_ok, of_exc, of_bad, of_ite, sq_nx, sq_rt, sq_bk, sq_ct, sq_exc, sq_bad, sq_ite, fn_nx, fn_rt, fn_exc, fn_bad, fn_ite, v_mkF, v_seq, v_next, v_retN, v_brk, v_cont, v_raise, v_frz, v_bin, v_op1, v_c, v_nil, v_cons, v_consO, v_call, v_test, v_not, v_and, v_or, v_if, bol_b, v_andV, v_orV, v_notV, v_chain, v_lst, v_tup, szR_0, szR_1, szR_2, szR_3, szR_4, szR_5, szR_6, szR_7, szR_8, szR_9, szR_10, szR_11, szR_12, szR_13, szR_14, v_L, v_mu, v_Q, v_P0, iOf_i, v_P, v_sl, v_meth, v_par, v_ifS, v_set, v_setOw, v_ret, v_drop, v_for, v_lam, oCatL_le, oCatQ_le, oAdd_l, oAdd_t, oMul_l2, oMul_l3, oMul_l4, oMul_l5, Nat.reduceLeDiff, oItems_l, oItems_t, oItems_s, oItemsQ_i, oSl_l, oSl_t, oSl_sc, oTupOf_i, oLstOf_i, oSum_i, oAll_i, oAny_i, oMod_p, oDiv_p, oMul_L, oMul_R, oPow_6, oPow_12, oPow_18, oPow_20, oPow_36, oInt_i, oInt_b, oAbs_i, oLen_l, oLen_t, oLenQ_i, oIx_mu, at_0, at_1, at_2, at_3, at_4, at_5, ix5_0, ix5_1, ix5_2, ix5_3, ix5_4, Int.reduceLT, Int.reduceNeg, Int.reduceAdd, Int.reduceSub, Int.reduceMul, oAdd_i, oSub_i, oNeg_i, oLt_i, oLe_i, oGt_i, oGe_i, oMin_i, oMax_i, oEq_i, oNe_i, oEq_s, oNe_s, oIxQ_i, oIx_l, oIx_t, asB_b, asQ_l, asQ_t, v_var, var_fz, v_app, app_ow, v_ext, ext_ow, v_frzE, frs_ow, frs_fz, v_own, own_fl, own_ft, own_ow, own_sh, lp_nx, lp_ct, lp_bk, lp_rt, lp_exc, lp_bad, lp_ite, ag_some, ag_none, fl_nil, fl_cons, g_N, g_nil, g_cons, g_T, o_some, v_asg, v_try, try_exc, try_nx, try_rt, trE_rt, trE_nx, v_thkE, v_thkR, thk_rv, said_nx, said_rt, v_isE, isE_rv, v_wipeR, v_callL, callL_fn, lkL_some, v_store, may_ow, may_fz, may_t, sto_ow, sto_mu, ixO_s, List.getElem?_cons_succ, List.getElem?_cons_zero, List.set_cons_succ, List.set_cons_zero, startE, List.zipWith, List.replicate, List.length_cons, List.length_nil, List.cons_append, List.nil_append, setE, Nat.reduceSub, Nat.reduceAdd, if_true, if_false, ite_true, ite_false, Bool.not_true, Bool.not_false, Bool.false_eq_true,
           hq]
    rfl), ((ns.filter fun _ => true).map fun n => (if n < 0 then -n else n) % 1000000000000000000000000000000000000), 0, 0, _, 0, by rw [List.map_map]; rfl, fun c hc => ?_, by decide, by decide⟩
  obtain ⟨n, _, rfl⟩ := List.mem_map.mp hc
  exact Int.emod_nonneg _ (by decide)
/-! ### the checks -/
def isI : D → Bool
  | .int _ => true
  | _ => false
theorem e_is_integer {d : D} (h : plainK d = true) (s : S) : mf_is_integer [d] s = .ok (.bool (isI d)) s := by
  have k : ∀ t, oIsi t d s = (L2.kitB (kindD d) t).map .bool := fun t => by unfold oIsi; rw [if_pos h]
  unfold mf_is_integer m_is_integer
  simp (config := {implicitDefEqProofs := false}) only [b_ok, b_exc, b_bad, b_ite, l_some, l_none, of_ok, of_exc, of_bad, of_ite, sq_nx, sq_rt, sq_bk, sq_ct, sq_exc, sq_bad, sq_ite, fn_nx, fn_rt, fn_exc, fn_bad, fn_ite, v_mkF, v_seq, v_next, v_retN, v_brk, v_cont, v_raise, v_frz, v_bin, v_op1, v_c, v_nil, v_cons, v_consO, v_call, v_test, v_not, v_and, v_or, v_if, bol_b, v_andV, v_orV, v_notV, v_chain, v_lst, v_tup, szR_0, szR_1, szR_2, szR_3, szR_4, szR_5, szR_6, szR_7, szR_8, szR_9, szR_10, szR_11, szR_12, szR_13, szR_14, v_L, v_mu, v_Q, v_P0, iOf_i, v_P, v_sl, v_meth, v_par, v_ifS, v_set, v_setOw, v_ret, v_drop, v_for, v_lam, oCatL_le, oCatQ_le, oAdd_l, oAdd_t, oMul_l2, oMul_l3, oMul_l4, oMul_l5, Nat.reduceLeDiff, oItems_l, oItems_t, oItems_s, oItemsQ_i, oSl_l, oSl_t, oSl_sc, oTupOf_i, oLstOf_i, oSum_i, oAll_i, oAny_i, oMod_p, oDiv_p, oMul_L, oMul_R, oPow_6, oPow_12, oPow_18, oPow_20, oPow_36, oInt_i, oInt_b, oAbs_i, oLen_l, oLen_t, oLenQ_i, oIx_mu, at_0, at_1, at_2, at_3, at_4, at_5, ix5_0, ix5_1, ix5_2, ix5_3, ix5_4, Int.reduceLT, Int.reduceNeg, Int.reduceAdd, Int.reduceSub, Int.reduceMul, oAdd_i, oSub_i, oNeg_i, oLt_i, oLe_i, oGt_i, oGe_i, oMin_i, oMax_i, oEq_i, oNe_i, oEq_s, oNe_s, oIxQ_i, oIx_l, oIx_t, asB_b, asQ_l, asQ_t, v_var, var_fz, v_app, app_ow, v_ext, ext_ow, v_frzE, frs_ow, frs_fz, v_own, own_fl, own_ft, own_ow, own_sh, lp_nx, lp_ct, lp_bk, lp_rt, lp_exc, lp_bad, lp_ite, ag_some, ag_none, fl_nil, fl_cons, g_N, g_nil, g_cons, g_T, o_some, v_asg, v_try, try_exc, try_nx, try_rt, trE_rt, trE_nx, v_thkE, v_thkR, thk_rv, said_nx, said_rt, v_isE, isE_rv, v_wipeR, v_callL, callL_fn, lkL_some, v_store, may_ow, may_fz, may_t, sto_ow, sto_mu, ixO_s, List.getElem?_cons_succ, List.getElem?_cons_zero, List.set_cons_succ, List.set_cons_zero, startE, List.zipWith, List.replicate, List.length_cons, List.length_nil, List.cons_append, List.nil_append, setE, Nat.reduceSub, Nat.reduceAdd, if_true, if_false, ite_true, ite_false, Bool.not_true, Bool.not_false, Bool.false_eq_true,
         k]
  cases d with
  | dict l => cases l with | nil => rfl | cons x l => cases h
  | _ => rfl
def inR (lo hi : Int) : D → Bool
  | .int i => decide (lo ≤ i) && decide (i ≤ hi)
  | _ => false
theorem e_is_within {d : D} (h : plainK d = true) (lo hi : Int) (s : S) : mf_is_within [d, .int lo, .int hi] s = .ok (.bool (inR lo hi d)) s := by
  unfold mf_is_within m_is_within
  simp (config := {implicitDefEqProofs := false}) only [b_ok, b_exc, b_bad, b_ite, l_some, l_none, of_ok, of_exc, of_bad, of_ite, sq_nx, sq_rt, sq_bk, sq_ct, sq_exc, sq_bad, sq_ite, fn_nx, fn_rt, fn_exc, fn_bad, fn_ite, v_mkF, v_seq, v_next, v_retN, v_brk, v_cont, v_raise, v_frz, v_bin, v_op1, v_c, v_nil, v_cons, v_consO, v_call, v_test, v_not, v_and, v_or, v_if, bol_b, v_andV, v_orV, v_notV, v_chain, v_lst, v_tup, szR_0, szR_1, szR_2, szR_3, szR_4, szR_5, szR_6, szR_7, szR_8, szR_9, szR_10, szR_11, szR_12, szR_13, szR_14, v_L, v_mu, v_Q, v_P0, iOf_i, v_P, v_sl, v_meth, v_par, v_ifS, v_set, v_setOw, v_ret, v_drop, v_for, v_lam, oCatL_le, oCatQ_le, oAdd_l, oAdd_t, oMul_l2, oMul_l3, oMul_l4, oMul_l5, Nat.reduceLeDiff, oItems_l, oItems_t, oItems_s, oItemsQ_i, oSl_l, oSl_t, oSl_sc, oTupOf_i, oLstOf_i, oSum_i, oAll_i, oAny_i, oMod_p, oDiv_p, oMul_L, oMul_R, oPow_6, oPow_12, oPow_18, oPow_20, oPow_36, oInt_i, oInt_b, oAbs_i, oLen_l, oLen_t, oLenQ_i, oIx_mu, at_0, at_1, at_2, at_3, at_4, at_5, ix5_0, ix5_1, ix5_2, ix5_3, ix5_4, Int.reduceLT, Int.reduceNeg, Int.reduceAdd, Int.reduceSub, Int.reduceMul, oAdd_i, oSub_i, oNeg_i, oLt_i, oLe_i, oGt_i, oGe_i, oMin_i, oMax_i, oEq_i, oNe_i, oEq_s, oNe_s, oIxQ_i, oIx_l, oIx_t, asB_b, asQ_l, asQ_t, v_var, var_fz, v_app, app_ow, v_ext, ext_ow, v_frzE, frs_ow, frs_fz, v_own, own_fl, own_ft, own_ow, own_sh, lp_nx, lp_ct, lp_bk, lp_rt, lp_exc, lp_bad, lp_ite, ag_some, ag_none, fl_nil, fl_cons, g_N, g_nil, g_cons, g_T, o_some, v_asg, v_try, try_exc, try_nx, try_rt, trE_rt, trE_nx, v_thkE, v_thkR, thk_rv, said_nx, said_rt, v_isE, isE_rv, v_wipeR, v_callL, callL_fn, lkL_some, v_store, may_ow, may_fz, may_t, sto_ow, sto_mu, ixO_s, List.getElem?_cons_succ, List.getElem?_cons_zero, List.set_cons_succ, List.set_cons_zero, startE, List.zipWith, List.replicate, List.length_cons, List.length_nil, List.cons_append, List.nil_append, setE, Nat.reduceSub, Nat.reduceAdd, if_true, if_false, ite_true, ite_false, Bool.not_true, Bool.not_false, Bool.false_eq_true,
         e_is_integer h]
  cases d with
  | int i =>
    simp (config := {implicitDefEqProofs := false}) only [b_ok, b_exc, b_bad, b_ite, l_some, l_none, of_ok, of_exc, of_bad, of_ite, sq_nx, sq_rt, sq_bk, sq_ct, sq_exc, sq_bad, sq_ite, fn_nx, fn_rt, fn_exc, fn_bad, fn_ite, v_mkF, v_seq, v_next, v_retN, v_brk, v_cont, v_raise, v_frz, v_bin, v_op1, v_c, v_nil, v_cons, v_consO, v_call, v_test, v_not, v_and, v_or, v_if, bol_b, v_andV, v_orV, v_notV, v_chain, v_lst, v_tup, szR_0, szR_1, szR_2, szR_3, szR_4, szR_5, szR_6, szR_7, szR_8, szR_9, szR_10, szR_11, szR_12, szR_13, szR_14, v_L, v_mu, v_Q, v_P0, iOf_i, v_P, v_sl, v_meth, v_par, v_ifS, v_set, v_setOw, v_ret, v_drop, v_for, v_lam, oCatL_le, oCatQ_le, oAdd_l, oAdd_t, oMul_l2, oMul_l3, oMul_l4, oMul_l5, Nat.reduceLeDiff, oItems_l, oItems_t, oItems_s, oItemsQ_i, oSl_l, oSl_t, oSl_sc, oTupOf_i, oLstOf_i, oSum_i, oAll_i, oAny_i, oMod_p, oDiv_p, oMul_L, oMul_R, oPow_6, oPow_12, oPow_18, oPow_20, oPow_36, oInt_i, oInt_b, oAbs_i, oLen_l, oLen_t, oLenQ_i, oIx_mu, at_0, at_1, at_2, at_3, at_4, at_5, ix5_0, ix5_1, ix5_2, ix5_3, ix5_4, Int.reduceLT, Int.reduceNeg, Int.reduceAdd, Int.reduceSub, Int.reduceMul, oAdd_i, oSub_i, oNeg_i, oLt_i, oLe_i, oGt_i, oGe_i, oMin_i, oMax_i, oEq_i, oNe_i, oEq_s, oNe_s, oIxQ_i, oIx_l, oIx_t, asB_b, asQ_l, asQ_t, v_var, var_fz, v_app, app_ow, v_ext, ext_ow, v_frzE, frs_ow, frs_fz, v_own, own_fl, own_ft, own_ow, own_sh, lp_nx, lp_ct, lp_bk, lp_rt, lp_exc, lp_bad, lp_ite, ag_some, ag_none, fl_nil, fl_cons, g_N, g_nil, g_cons, g_T, o_some, v_asg, v_try, try_exc, try_nx, try_rt, trE_rt, trE_nx, v_thkE, v_thkR, thk_rv, said_nx, said_rt, v_isE, isE_rv, v_wipeR, v_callL, callL_fn, lkL_some, v_store, may_ow, may_fz, may_t, sto_ow, sto_mu, ixO_s, List.getElem?_cons_succ, List.getElem?_cons_zero, List.set_cons_succ, List.set_cons_zero, startE, List.zipWith, List.replicate, List.length_cons, List.length_nil, List.cons_append, List.nil_append, setE, Nat.reduceSub, Nat.reduceAdd, if_true, if_false, ite_true, ite_false, Bool.not_true, Bool.not_false, Bool.false_eq_true,
           isI]
    by_cases c : lo ≤ i
    · simp [inR, c, bol]
    · simp [inR, c, bol]
  | _ => rfl
def eX (c : Str) : Ex := ⟨c, []⟩
theorem inR_i {lo hi i : Int} (h : lo ≤ i) (h' : i ≤ hi) : inR lo hi (.int i) = true := by simp [inR, h, h']
/-- what is none -/
structure Bad (lo hi : Int) (d : D) : Prop where
  pl : plainK d = true
  no : inR lo hi d = false
/-! ### the days of months and years -/
def lens : List D := [.int 31, .int 28, .int 31, .int 30, .int 31, .int 30, .int 31, .int 31, .int 30, .int 31, .int 30, .int 31]
theorem e_month_length {m y : Int} (h1 : 1 ≤ m) (h2 : m ≤ 12) (s : S) : mf_month_length [.int m, .int y] s = .ok (.int (ml m y)) s := by
  have a6 : L2.atI lens 6 = some (.int 31) := by kernel_rfl
  have a7 : L2.atI lens 7 = some (.int 31) := by kernel_rfl
  have a8 : L2.atI lens 8 = some (.int 30) := by kernel_rfl
  have a9 : L2.atI lens 9 = some (.int 31) := by kernel_rfl
  have a10 : L2.atI lens 10 = some (.int 30) := by kernel_rfl
  have a11 : L2.atI lens 11 = some (.int 31) := by kernel_rfl
  unfold lens at a6 a7 a8 a9 a10 a11
  unfold mf_month_length m_month_length
  have : m = 1 ∨ m = 2 ∨ m = 3 ∨ m = 4 ∨ m = 5 ∨ m = 6 ∨ m = 7 ∨ m = 8 ∨ m = 9 ∨ m = 10 ∨ m = 11 ∨ m = 12 := by omega
  by_cases h : y % 4 = 0
  · have hb : (y % 4 == 0) = true := by simpa using h
    rcases this with rfl | rfl | rfl | rfl | rfl | rfl | rfl | rfl | rfl | rfl | rfl | rfl <;> (simp (config := {implicitDefEqProofs := false}) only [b_ok, b_exc, b_bad, b_ite, l_some, l_none, of_ok, of_exc, of_bad, of_ite, sq_nx, sq_rt, sq_bk, sq_ct, sq_exc, sq_bad, sq_ite, fn_nx, fn_rt, fn_exc, fn_bad, fn_ite, v_mkF, v_seq, v_next, v_retN, v_brk, v_cont, v_raise, v_frz, v_bin, v_op1, v_c, v_nil, v_cons, v_consO, v_call, v_test, v_not, v_and, v_or, v_if, bol_b, v_andV, v_orV, v_notV, v_chain, v_lst, v_tup, szR_0, szR_1, szR_2, szR_3, szR_4, szR_5, szR_6, szR_7, szR_8, szR_9, szR_10, szR_11, szR_12, szR_13, szR_14, v_L, v_mu, v_Q, v_P0, iOf_i, v_P, v_sl, v_meth, v_par, v_ifS, v_set, v_setOw, v_ret, v_drop, v_for, v_lam, oCatL_le, oCatQ_le, oAdd_l, oAdd_t, oMul_l2, oMul_l3, oMul_l4, oMul_l5, Nat.reduceLeDiff, oItems_l, oItems_t, oItems_s, oItemsQ_i, oSl_l, oSl_t, oSl_sc, oTupOf_i, oLstOf_i, oSum_i, oAll_i, oAny_i, oMod_p, oDiv_p, oMul_L, oMul_R, oPow_6, oPow_12, oPow_18, oPow_20, oPow_36, oInt_i, oInt_b, oAbs_i, oLen_l, oLen_t, oLenQ_i, oIx_mu, at_0, at_1, at_2, at_3, at_4, at_5, ix5_0, ix5_1, ix5_2, ix5_3, ix5_4, Int.reduceLT, Int.reduceNeg, Int.reduceAdd, Int.reduceSub, Int.reduceMul, oAdd_i, oSub_i, oNeg_i, oLt_i, oLe_i, oGt_i, oGe_i, oMin_i, oMax_i, oEq_i, oNe_i, oEq_s, oNe_s, oIxQ_i, oIx_l, oIx_t, asB_b, asQ_l, asQ_t, v_var, var_fz, v_app, app_ow, v_ext, ext_ow, v_frzE, frs_ow, frs_fz, v_own, own_fl, own_ft, own_ow, own_sh, lp_nx, lp_ct, lp_bk, lp_rt, lp_exc, lp_bad, lp_ite, ag_some, ag_none, fl_nil, fl_cons, g_N, g_nil, g_cons, g_T, o_some, v_asg, v_try, try_exc, try_nx, try_rt, trE_rt, trE_nx, v_thkE, v_thkR, thk_rv, said_nx, said_rt, v_isE, isE_rv, v_wipeR, v_callL, callL_fn, lkL_some, v_store, may_ow, may_fz, may_t, sto_ow, sto_mu, ixO_s, List.getElem?_cons_succ, List.getElem?_cons_zero, List.set_cons_succ, List.set_cons_zero, startE, List.zipWith, List.replicate, List.length_cons, List.length_nil, List.cons_append, List.nil_append, setE, Nat.reduceSub, Nat.reduceAdd, if_true, if_false, ite_true, ite_false, Bool.not_true, Bool.not_false, Bool.false_eq_true,
                                                                                                       hb, a6, a7, a8, a9, a10, a11, Int.reduceBEq, Int.reduceEq, beq_self_eq_true]; simp [ml, h])
  · have hb : (y % 4 == 0) = false := by simpa using h
    rcases this with rfl | rfl | rfl | rfl | rfl | rfl | rfl | rfl | rfl | rfl | rfl | rfl <;> (simp (config := {implicitDefEqProofs := false}) only [b_ok, b_exc, b_bad, b_ite, l_some, l_none, of_ok, of_exc, of_bad, of_ite, sq_nx, sq_rt, sq_bk, sq_ct, sq_exc, sq_bad, sq_ite, fn_nx, fn_rt, fn_exc, fn_bad, fn_ite, v_mkF, v_seq, v_next, v_retN, v_brk, v_cont, v_raise, v_frz, v_bin, v_op1, v_c, v_nil, v_cons, v_consO, v_call, v_test, v_not, v_and, v_or, v_if, bol_b, v_andV, v_orV, v_notV, v_chain, v_lst, v_tup, szR_0, szR_1, szR_2, szR_3, szR_4, szR_5, szR_6, szR_7, szR_8, szR_9, szR_10, szR_11, szR_12, szR_13, szR_14, v_L, v_mu, v_Q, v_P0, iOf_i, v_P, v_sl, v_meth, v_par, v_ifS, v_set, v_setOw, v_ret, v_drop, v_for, v_lam, oCatL_le, oCatQ_le, oAdd_l, oAdd_t, oMul_l2, oMul_l3, oMul_l4, oMul_l5, Nat.reduceLeDiff, oItems_l, oItems_t, oItems_s, oItemsQ_i, oSl_l, oSl_t, oSl_sc, oTupOf_i, oLstOf_i, oSum_i, oAll_i, oAny_i, oMod_p, oDiv_p, oMul_L, oMul_R, oPow_6, oPow_12, oPow_18, oPow_20, oPow_36, oInt_i, oInt_b, oAbs_i, oLen_l, oLen_t, oLenQ_i, oIx_mu, at_0, at_1, at_2, at_3, at_4, at_5, ix5_0, ix5_1, ix5_2, ix5_3, ix5_4, Int.reduceLT, Int.reduceNeg, Int.reduceAdd, Int.reduceSub, Int.reduceMul, oAdd_i, oSub_i, oNeg_i, oLt_i, oLe_i, oGt_i, oGe_i, oMin_i, oMax_i, oEq_i, oNe_i, oEq_s, oNe_s, oIxQ_i, oIx_l, oIx_t, asB_b, asQ_l, asQ_t, v_var, var_fz, v_app, app_ow, v_ext, ext_ow, v_frzE, frs_ow, frs_fz, v_own, own_fl, own_ft, own_ow, own_sh, lp_nx, lp_ct, lp_bk, lp_rt, lp_exc, lp_bad, lp_ite, ag_some, ag_none, fl_nil, fl_cons, g_N, g_nil, g_cons, g_T, o_some, v_asg, v_try, try_exc, try_nx, try_rt, trE_rt, trE_nx, v_thkE, v_thkR, thk_rv, said_nx, said_rt, v_isE, isE_rv, v_wipeR, v_callL, callL_fn, lkL_some, v_store, may_ow, may_fz, may_t, sto_ow, sto_mu, ixO_s, List.getElem?_cons_succ, List.getElem?_cons_zero, List.set_cons_succ, List.set_cons_zero, startE, List.zipWith, List.replicate, List.length_cons, List.length_nil, List.cons_append, List.nil_append, setE, Nat.reduceSub, Nat.reduceAdd, if_true, if_false, ite_true, ite_false, Bool.not_true, Bool.not_false, Bool.false_eq_true,
                                                                                                       hb, a6, a7, a8, a9, a10, a11, Int.reduceBEq, Int.reduceEq, beq_self_eq_true]; simp [ml, h])
theorem e_year_days (y : Int) (s : S) : mf_year_days [.int y] s = .ok (.int (yd y)) s := by
  unfold mf_year_days m_year_days
  by_cases h : y % 4 = 0
  · have hb : (y % 4 == 0) = true := by simpa using h
    simp (config := {implicitDefEqProofs := false}) only [b_ok, b_exc, b_bad, b_ite, l_some, l_none, of_ok, of_exc, of_bad, of_ite, sq_nx, sq_rt, sq_bk, sq_ct, sq_exc, sq_bad, sq_ite, fn_nx, fn_rt, fn_exc, fn_bad, fn_ite, v_mkF, v_seq, v_next, v_retN, v_brk, v_cont, v_raise, v_frz, v_bin, v_op1, v_c, v_nil, v_cons, v_consO, v_call, v_test, v_not, v_and, v_or, v_if, bol_b, v_andV, v_orV, v_notV, v_chain, v_lst, v_tup, szR_0, szR_1, szR_2, szR_3, szR_4, szR_5, szR_6, szR_7, szR_8, szR_9, szR_10, szR_11, szR_12, szR_13, szR_14, v_L, v_mu, v_Q, v_P0, iOf_i, v_P, v_sl, v_meth, v_par, v_ifS, v_set, v_setOw, v_ret, v_drop, v_for, v_lam, oCatL_le, oCatQ_le, oAdd_l, oAdd_t, oMul_l2, oMul_l3, oMul_l4, oMul_l5, Nat.reduceLeDiff, oItems_l, oItems_t, oItems_s, oItemsQ_i, oSl_l, oSl_t, oSl_sc, oTupOf_i, oLstOf_i, oSum_i, oAll_i, oAny_i, oMod_p, oDiv_p, oMul_L, oMul_R, oPow_6, oPow_12, oPow_18, oPow_20, oPow_36, oInt_i, oInt_b, oAbs_i, oLen_l, oLen_t, oLenQ_i, oIx_mu, at_0, at_1, at_2, at_3, at_4, at_5, ix5_0, ix5_1, ix5_2, ix5_3, ix5_4, Int.reduceLT, Int.reduceNeg, Int.reduceAdd, Int.reduceSub, Int.reduceMul, oAdd_i, oSub_i, oNeg_i, oLt_i, oLe_i, oGt_i, oGe_i, oMin_i, oMax_i, oEq_i, oNe_i, oEq_s, oNe_s, oIxQ_i, oIx_l, oIx_t, asB_b, asQ_l, asQ_t, v_var, var_fz, v_app, app_ow, v_ext, ext_ow, v_frzE, frs_ow, frs_fz, v_own, own_fl, own_ft, own_ow, own_sh, lp_nx, lp_ct, lp_bk, lp_rt, lp_exc, lp_bad, lp_ite, ag_some, ag_none, fl_nil, fl_cons, g_N, g_nil, g_cons, g_T, o_some, v_asg, v_try, try_exc, try_nx, try_rt, trE_rt, trE_nx, v_thkE, v_thkR, thk_rv, said_nx, said_rt, v_isE, isE_rv, v_wipeR, v_callL, callL_fn, lkL_some, v_store, may_ow, may_fz, may_t, sto_ow, sto_mu, ixO_s, List.getElem?_cons_succ, List.getElem?_cons_zero, List.set_cons_succ, List.set_cons_zero, startE, List.zipWith, List.replicate, List.length_cons, List.length_nil, List.cons_append, List.nil_append, setE, Nat.reduceSub, Nat.reduceAdd, if_true, if_false, ite_true, ite_false, Bool.not_true, Bool.not_false, Bool.false_eq_true,
           hb]
    simp [yd, h]
  · have hb : (y % 4 == 0) = false := by simpa using h
    simp (config := {implicitDefEqProofs := false}) only [b_ok, b_exc, b_bad, b_ite, l_some, l_none, of_ok, of_exc, of_bad, of_ite, sq_nx, sq_rt, sq_bk, sq_ct, sq_exc, sq_bad, sq_ite, fn_nx, fn_rt, fn_exc, fn_bad, fn_ite, v_mkF, v_seq, v_next, v_retN, v_brk, v_cont, v_raise, v_frz, v_bin, v_op1, v_c, v_nil, v_cons, v_consO, v_call, v_test, v_not, v_and, v_or, v_if, bol_b, v_andV, v_orV, v_notV, v_chain, v_lst, v_tup, szR_0, szR_1, szR_2, szR_3, szR_4, szR_5, szR_6, szR_7, szR_8, szR_9, szR_10, szR_11, szR_12, szR_13, szR_14, v_L, v_mu, v_Q, v_P0, iOf_i, v_P, v_sl, v_meth, v_par, v_ifS, v_set, v_setOw, v_ret, v_drop, v_for, v_lam, oCatL_le, oCatQ_le, oAdd_l, oAdd_t, oMul_l2, oMul_l3, oMul_l4, oMul_l5, Nat.reduceLeDiff, oItems_l, oItems_t, oItems_s, oItemsQ_i, oSl_l, oSl_t, oSl_sc, oTupOf_i, oLstOf_i, oSum_i, oAll_i, oAny_i, oMod_p, oDiv_p, oMul_L, oMul_R, oPow_6, oPow_12, oPow_18, oPow_20, oPow_36, oInt_i, oInt_b, oAbs_i, oLen_l, oLen_t, oLenQ_i, oIx_mu, at_0, at_1, at_2, at_3, at_4, at_5, ix5_0, ix5_1, ix5_2, ix5_3, ix5_4, Int.reduceLT, Int.reduceNeg, Int.reduceAdd, Int.reduceSub, Int.reduceMul, oAdd_i, oSub_i, oNeg_i, oLt_i, oLe_i, oGt_i, oGe_i, oMin_i, oMax_i, oEq_i, oNe_i, oEq_s, oNe_s, oIxQ_i, oIx_l, oIx_t, asB_b, asQ_l, asQ_t, v_var, var_fz, v_app, app_ow, v_ext, ext_ow, v_frzE, frs_ow, frs_fz, v_own, own_fl, own_ft, own_ow, own_sh, lp_nx, lp_ct, lp_bk, lp_rt, lp_exc, lp_bad, lp_ite, ag_some, ag_none, fl_nil, fl_cons, g_N, g_nil, g_cons, g_T, o_some, v_asg, v_try, try_exc, try_nx, try_rt, trE_rt, trE_nx, v_thkE, v_thkR, thk_rv, said_nx, said_rt, v_isE, isE_rv, v_wipeR, v_callL, callL_fn, lkL_some, v_store, may_ow, may_fz, may_t, sto_ow, sto_mu, ixO_s, List.getElem?_cons_succ, List.getElem?_cons_zero, List.set_cons_succ, List.set_cons_zero, startE, List.zipWith, List.replicate, List.length_cons, List.length_nil, List.cons_append, List.nil_append, setE, Nat.reduceSub, Nat.reduceAdd, if_true, if_false, ite_true, ite_false, Bool.not_true, Bool.not_false, Bool.false_eq_true,
           hb]
    simp [yd, h]
theorem sum_F (f : Nat → Int) : ∀ n : Nat, ((List.range n).map f).sum = F f n
  | 0 => rfl
  | n + 1 => by
    rw [List.range_succ, List.map_append, List.sum_append, sum_F f n]
    simp [F]
theorem oSum_F (f : Nat → Int) (n : Nat) (s : S) : oSum (false, (List.range n).map fun k => PyData.int (f k)) s = some (.int (F f n)) := by
  have e : ((List.range n).map fun k => PyData.int (f k)) = ((List.range n).map f).map PyData.int := by rw [List.map_map]; rfl
  rw [e, oSum_i, sum_F]
end K76


set_option Elab.async false
set_option maxRecDepth 100000
set_option maxHeartbeats 1000000
set_option linter.all false
namespace K76
open PySem Dn
/-! ### six signs -/
theorem two_int : ∀ k : Fin 100, intText? (two02 ((k : Nat) : Int)) = some ((k : Nat) : Int) := by decide +kernel
theorem two_len : ∀ k : Fin 100, (two02 ((k : Nat) : Int)).cps.toList.length = 2 := by decide +kernel
theorem two_dig : ∀ k : Fin 100, ∀ c ∈ (two02 ((k : Nat) : Int)).cps.toList, 48 ≤ c ∧ c ≤ 57 := by decide +kernel
def S2 (a b : Nat) : Str := ⟨#[a, b]⟩
theorem dig_int : ∀ a : Fin 10, ∀ b : Fin 10, intText? (S2 (48 + a) (48 + b)) = some (((10 * a.val + b.val : Nat)) : Int) := by decide +kernel
theorem dig_int' {a b : Nat} (ha : 48 ≤ a ∧ a ≤ 57) (hb : 48 ≤ b ∧ b ≤ 57) : ∃ k : Nat, k < 100 ∧ intText? (S2 a b) = some (k : Int) := by
  have := dig_int ⟨a - 48, by omega⟩ ⟨b - 48, by omega⟩
  rw [show 48 + (⟨a - 48, by omega⟩ : Fin 10).val = a by show 48 + (a - 48) = a; omega, show 48 + (⟨b - 48, by omega⟩ : Fin 10).val = b by show 48 + (b - 48) = b; omega] at this
  exact ⟨_, by omega, this⟩
/-- a text of six digits, its three numbers -/
structure Mk (z : Str) (p q r : Nat) : Prop where
  ex : ∃ a b c d e f, z = ⟨#[a, b, c, d, e, f]⟩ ∧ (∀ x ∈ [a, b, c, d, e, f], 48 ≤ x ∧ x ≤ 57) ∧ intText? (S2 a b) = some (p : Int) ∧ intText? (S2 c d) = some (q : Int) ∧ intText? (S2 e f) = some (r : Int)
  p1 : p < 100
  q1 : q < 100
  r1 : r < 100
def digits : Str := "0123456789"
theorem dig_mem (c : Nat) : c ∈ digits.cps.toList ↔ 48 ≤ c ∧ c ≤ 57 := by
  have e : digits.cps.toList = [48, 49, 50, 51, 52, 53, 54, 55, 56, 57] := by decide +kernel
  rw [e]
  simp only [List.mem_cons, List.mem_nil_iff, or_false]
  omega
def digS (z : Str) : Bool := z.cps.toList.all fun c => decide (c ∈ digits.cps.toList)
def six (z : Str) : Bool := decide (z.length = 6) && digS z
theorem six_mk {z : Str} (h : six z = true) : ∃ p q r, Mk z p q r := by
  unfold six at h
  rw [Bool.and_eq_true, decide_eq_true_eq] at h
  obtain ⟨h1, h2⟩ := h
  cases z with
  | mk arr =>
    cases arr with
    | mk l =>
      have hl : l.length = 6 := h1
      match l, hl with
      | [a, b, c, d, e, f], _ =>
        unfold digS at h2
        have h3 : ∀ x ∈ [a, b, c, d, e, f], 48 ≤ x ∧ x ≤ 57 := fun x hx => by
          have := List.all_eq_true.mp h2 x hx
          rw [decide_eq_true_eq, dig_mem] at this
          exact this
        obtain ⟨p, hp, e1⟩ := dig_int' (h3 a (by simp)) (h3 b (by simp))
        obtain ⟨q, hq, e2⟩ := dig_int' (h3 c (by simp)) (h3 d (by simp))
        obtain ⟨r, hr, e3⟩ := dig_int' (h3 e (by simp)) (h3 f (by simp))
        exact ⟨p, q, r, ⟨a, b, c, d, e, f, rfl, h3, e1, e2, e3⟩, hp, hq, hr⟩
theorem mk_six {z : Str} {p q r : Nat} (h : Mk z p q r) : six z = true := by
  obtain ⟨a, b, c, d, e, f, rfl, h3, _⟩ := h.ex
  unfold six digS
  rw [Bool.and_eq_true, decide_eq_true_eq]
  refine ⟨rfl, List.all_eq_true.mpr fun x hx => ?_⟩
  rw [decide_eq_true_eq, dig_mem]
  exact h3 x hx
theorem mk_len {z : Str} {p q r : Nat} (h : Mk z p q r) : z.length = 6 := by
  obtain ⟨a, b, c, d, e, f, rfl, _⟩ := h.ex
  rfl
theorem oInt_S2 {a b : Nat} {k : Int} (h : intText? (S2 a b) = some k) (s : S) : oInt (.str (S2 a b)) s = some (.int k) := by
  have e : oInt (.str (S2 a b)) s = if (S2 a b).length ≤ 640 then (intText? (S2 a b)).map .int else none := rfl
  rw [e, if_pos (show (S2 a b).length ≤ 640 by show 2 ≤ 640; decide), h]
  rfl
theorem oSl_s {z : Str} {l h : Option Int} {s : S} (k : z.length ≤ 1000000) : oSl (.str z) l h s = some (.str (Txt.slice z l h)) := if_pos (Nat.le_trans k (by rw [sizeLine_eq]; decide))
theorem sl1 (a b c d e f : Nat) : Txt.slice ⟨#[a, b, c, d, e, f]⟩ none (some 2) = S2 a b := by kernel_rfl
theorem sl2 (a b c d e f : Nat) : Txt.slice ⟨#[a, b, c, d, e, f]⟩ (some 2) (some 4) = S2 c d := by kernel_rfl
theorem sl3 (a b c d e f : Nat) : Txt.slice ⟨#[a, b, c, d, e, f]⟩ (some 4) none = S2 e f := by kernel_rfl
theorem e_parts_of {z : Str} {p q r : Nat} (h : Mk z p q r) (s : S) : mf_parts_of [.str z] s = .ok (.tuple [.int p, .int q, .int r]) s := by
  obtain ⟨a, b, c, d, e, f, rfl, h3, e1, e2, e3⟩ := h.ex
  unfold mf_parts_of m_parts_of
  simp (config := {implicitDefEqProofs := false}) only [b_ok, b_exc, b_bad, b_ite, l_some, l_none, of_ok, of_exc, of_bad, of_ite, sq_nx, sq_rt, sq_bk, sq_ct, sq_exc, sq_bad, sq_ite, fn_nx, fn_rt, fn_exc, fn_bad, fn_ite, v_mkF, v_seq, v_next, v_retN, v_brk, v_cont, v_raise, v_frz, v_bin, v_op1, v_c, v_nil, v_cons, v_consO, v_call, v_test, v_not, v_and, v_or, v_if, bol_b, v_andV, v_orV, v_notV, v_chain, v_lst, v_tup, szR_0, szR_1, szR_2, szR_3, szR_4, szR_5, szR_6, szR_7, szR_8, szR_9, szR_10, szR_11, szR_12, szR_13, szR_14, v_L, v_mu, v_Q, v_P0, iOf_i, v_P, v_sl, v_meth, v_par, v_ifS, v_set, v_setOw, v_ret, v_drop, v_for, v_lam, oCatL_le, oCatQ_le, oAdd_l, oAdd_t, oMul_l2, oMul_l3, oMul_l4, oMul_l5, Nat.reduceLeDiff, oItems_l, oItems_t, oItems_s, oItemsQ_i, oSl_l, oSl_t, oSl_sc, oTupOf_i, oLstOf_i, oSum_i, oAll_i, oAny_i, oMod_p, oDiv_p, oMul_L, oMul_R, oPow_6, oPow_12, oPow_18, oPow_20, oPow_36, oInt_i, oInt_b, oAbs_i, oLen_l, oLen_t, oLenQ_i, oIx_mu, at_0, at_1, at_2, at_3, at_4, at_5, ix5_0, ix5_1, ix5_2, ix5_3, ix5_4, Int.reduceLT, Int.reduceNeg, Int.reduceAdd, Int.reduceSub, Int.reduceMul, oAdd_i, oSub_i, oNeg_i, oLt_i, oLe_i, oGt_i, oGe_i, oMin_i, oMax_i, oEq_i, oNe_i, oEq_s, oNe_s, oIxQ_i, oIx_l, oIx_t, asB_b, asQ_l, asQ_t, v_var, var_fz, v_app, app_ow, v_ext, ext_ow, v_frzE, frs_ow, frs_fz, v_own, own_fl, own_ft, own_ow, own_sh, lp_nx, lp_ct, lp_bk, lp_rt, lp_exc, lp_bad, lp_ite, ag_some, ag_none, fl_nil, fl_cons, g_N, g_nil, g_cons, g_T, o_some, v_asg, v_try, try_exc, try_nx, try_rt, trE_rt, trE_nx, v_thkE, v_thkR, thk_rv, said_nx, said_rt, v_isE, isE_rv, v_wipeR, v_callL, callL_fn, lkL_some, v_store, may_ow, may_fz, may_t, sto_ow, sto_mu, ixO_s, List.getElem?_cons_succ, List.getElem?_cons_zero, List.set_cons_succ, List.set_cons_zero, startE, List.zipWith, List.replicate, List.length_cons, List.length_nil, List.cons_append, List.nil_append, setE, Nat.reduceSub, Nat.reduceAdd, if_true, if_false, ite_true, ite_false, Bool.not_true, Bool.not_false, Bool.false_eq_true,
         oSl_s (z := ⟨#[a, b, c, d, e, f]⟩) (show 6 ≤ 1000000 by decide), sl1, sl2, sl3, oInt_S2 e1, oInt_S2 e2, oInt_S2 e3]
theorem oIn_s (c : Nat) (z : Str) (s : S) : oIn (.str ⟨#[c]⟩) (.str z) s = some (.bool (decide (c ∈ z.cps.toList))) := rfl
theorem oLen_s {z : Str} {s : S} (k : z.length ≤ 1000000) : oLen (.str z) s = some (.int z.length) := if_pos (Nat.le_trans k (by rw [sizeLine_eq]; decide))
theorem q_dig {z : Str} (hz : z.length ≤ 1000) (s : S) (x1 x2 : Sl) : q_are_digits_1 [.fz (.str z), x1, x2, .un] s = .ok (((z.cps.toList.filter fun _ => true).map fun c => PyData.bool (decide (c ∈ digits.cps.toList)))) s := by
  refine comp_map (xs := z.cps.toList) (f := fun c => .str ⟨#[c]⟩) (s1 := s) (fun _ => true) _ ?_ (Nat.le_trans (show z.cps.toList.length ≤ z.length by simp [Str.length]) (by omega)) fun c _ => ⟨_, rfl, rfl, fun _ => ?_⟩
  · simp (config := {implicitDefEqProofs := false}) only [b_ok, b_exc, b_bad, b_ite, l_some, l_none, of_ok, of_exc, of_bad, of_ite, sq_nx, sq_rt, sq_bk, sq_ct, sq_exc, sq_bad, sq_ite, fn_nx, fn_rt, fn_exc, fn_bad, fn_ite, v_mkF, v_seq, v_next, v_retN, v_brk, v_cont, v_raise, v_frz, v_bin, v_op1, v_c, v_nil, v_cons, v_consO, v_call, v_test, v_not, v_and, v_or, v_if, bol_b, v_andV, v_orV, v_notV, v_chain, v_lst, v_tup, szR_0, szR_1, szR_2, szR_3, szR_4, szR_5, szR_6, szR_7, szR_8, szR_9, szR_10, szR_11, szR_12, szR_13, szR_14, v_L, v_mu, v_Q, v_P0, iOf_i, v_P, v_sl, v_meth, v_par, v_ifS, v_set, v_setOw, v_ret, v_drop, v_for, v_lam, oCatL_le, oCatQ_le, oAdd_l, oAdd_t, oMul_l2, oMul_l3, oMul_l4, oMul_l5, Nat.reduceLeDiff, oItems_l, oItems_t, oItems_s, oItemsQ_i, oSl_l, oSl_t, oSl_sc, oTupOf_i, oLstOf_i, oSum_i, oAll_i, oAny_i, oMod_p, oDiv_p, oMul_L, oMul_R, oPow_6, oPow_12, oPow_18, oPow_20, oPow_36, oInt_i, oInt_b, oAbs_i, oLen_l, oLen_t, oLenQ_i, oIx_mu, at_0, at_1, at_2, at_3, at_4, at_5, ix5_0, ix5_1, ix5_2, ix5_3, ix5_4, Int.reduceLT, Int.reduceNeg, Int.reduceAdd, Int.reduceSub, Int.reduceMul, oAdd_i, oSub_i, oNeg_i, oLt_i, oLe_i, oGt_i, oGe_i, oMin_i, oMax_i, oEq_i, oNe_i, oEq_s, oNe_s, oIxQ_i, oIx_l, oIx_t, asB_b, asQ_l, asQ_t, v_var, var_fz, v_app, app_ow, v_ext, ext_ow, v_frzE, frs_ow, frs_fz, v_own, own_fl, own_ft, own_ow, own_sh, lp_nx, lp_ct, lp_bk, lp_rt, lp_exc, lp_bad, lp_ite, ag_some, ag_none, fl_nil, fl_cons, g_N, g_nil, g_cons, g_T, o_some, v_asg, v_try, try_exc, try_nx, try_rt, trE_rt, trE_nx, v_thkE, v_thkR, thk_rv, said_nx, said_rt, v_isE, isE_rv, v_wipeR, v_callL, callL_fn, lkL_some, v_store, may_ow, may_fz, may_t, sto_ow, sto_mu, ixO_s, List.getElem?_cons_succ, List.getElem?_cons_zero, List.set_cons_succ, List.set_cons_zero, startE, List.zipWith, List.replicate, List.length_cons, List.length_nil, List.cons_append, List.nil_append, setE, Nat.reduceSub, Nat.reduceAdd, if_true, if_false, ite_true, ite_false, Bool.not_true, Bool.not_false, Bool.false_eq_true]
    rfl
  · dsimp only [wipeE]
    simp (config := {implicitDefEqProofs := false}) only [b_ok, b_exc, b_bad, b_ite, l_some, l_none, of_ok, of_exc, of_bad, of_ite, sq_nx, sq_rt, sq_bk, sq_ct, sq_exc, sq_bad, sq_ite, fn_nx, fn_rt, fn_exc, fn_bad, fn_ite, v_mkF, v_seq, v_next, v_retN, v_brk, v_cont, v_raise, v_frz, v_bin, v_op1, v_c, v_nil, v_cons, v_consO, v_call, v_test, v_not, v_and, v_or, v_if, bol_b, v_andV, v_orV, v_notV, v_chain, v_lst, v_tup, szR_0, szR_1, szR_2, szR_3, szR_4, szR_5, szR_6, szR_7, szR_8, szR_9, szR_10, szR_11, szR_12, szR_13, szR_14, v_L, v_mu, v_Q, v_P0, iOf_i, v_P, v_sl, v_meth, v_par, v_ifS, v_set, v_setOw, v_ret, v_drop, v_for, v_lam, oCatL_le, oCatQ_le, oAdd_l, oAdd_t, oMul_l2, oMul_l3, oMul_l4, oMul_l5, Nat.reduceLeDiff, oItems_l, oItems_t, oItems_s, oItemsQ_i, oSl_l, oSl_t, oSl_sc, oTupOf_i, oLstOf_i, oSum_i, oAll_i, oAny_i, oMod_p, oDiv_p, oMul_L, oMul_R, oPow_6, oPow_12, oPow_18, oPow_20, oPow_36, oInt_i, oInt_b, oAbs_i, oLen_l, oLen_t, oLenQ_i, oIx_mu, at_0, at_1, at_2, at_3, at_4, at_5, ix5_0, ix5_1, ix5_2, ix5_3, ix5_4, Int.reduceLT, Int.reduceNeg, Int.reduceAdd, Int.reduceSub, Int.reduceMul, oAdd_i, oSub_i, oNeg_i, oLt_i, oLe_i, oGt_i, oGe_i, oMin_i, oMax_i, oEq_i, oNe_i, oEq_s, oNe_s, oIxQ_i, oIx_l, oIx_t, asB_b, asQ_l, asQ_t, v_var, var_fz, v_app, app_ow, v_ext, ext_ow, v_frzE, frs_ow, frs_fz, v_own, own_fl, own_ft, own_ow, own_sh, lp_nx, lp_ct, lp_bk, lp_rt, lp_exc, lp_bad, lp_ite, ag_some, ag_none, fl_nil, fl_cons, g_N, g_nil, g_cons, g_T, o_some, v_asg, v_try, try_exc, try_nx, try_rt, trE_rt, trE_nx, v_thkE, v_thkR, thk_rv, said_nx, said_rt, v_isE, isE_rv, v_wipeR, v_callL, callL_fn, lkL_some, v_store, may_ow, may_fz, may_t, sto_ow, sto_mu, ixO_s, List.getElem?_cons_succ, List.getElem?_cons_zero, List.set_cons_succ, List.set_cons_zero, startE, List.zipWith, List.replicate, List.length_cons, List.length_nil, List.cons_append, List.nil_append, setE, Nat.reduceSub, Nat.reduceAdd, if_true, if_false, ite_true, ite_false, Bool.not_true, Bool.not_false, Bool.false_eq_true,
           oIn_s]
    rfl
theorem all_dig {z : Str} (s : S) : oAll (false, (z.cps.toList.filter fun _ => true).map fun c => PyData.bool (decide (c ∈ digits.cps.toList))) s = some (.bool (digS z)) := by
  have e : ((z.cps.toList.filter fun _ => true).map fun c => PyData.bool (decide (c ∈ digits.cps.toList))) = (z.cps.toList.map fun c => decide (c ∈ digits.cps.toList)).map PyData.bool := by
    rw [List.map_map, List.filter_eq_self.mpr fun _ _ => rfl]; rfl
  rw [e, oAll_i]
  unfold digS
  rw [List.all_map]
  rfl
def isSix : D → Bool
  | .str z => six z
  | _ => false
/-- a thing of the law's -/
structure Th_ (d : D) : Prop where
  pl : plainK d = true
  ln : ∀ z, d = .str z → z.length ≤ 1000
theorem e_are_digits {d : D} (h : Th_ d) (s : S) : mf_are_digits [d, .int 6, .int 6] s = .ok (.bool (isSix d)) s := by
  have k : ∀ t, oIsi t d s = (L2.kitB (kindD d) t).map .bool := fun t => by unfold oIsi; rw [if_pos h.pl]
  unfold mf_are_digits m_are_digits
  simp (config := {implicitDefEqProofs := false}) only [b_ok, b_exc, b_bad, b_ite, l_some, l_none, of_ok, of_exc, of_bad, of_ite, sq_nx, sq_rt, sq_bk, sq_ct, sq_exc, sq_bad, sq_ite, fn_nx, fn_rt, fn_exc, fn_bad, fn_ite, v_mkF, v_seq, v_next, v_retN, v_brk, v_cont, v_raise, v_frz, v_bin, v_op1, v_c, v_nil, v_cons, v_consO, v_call, v_test, v_not, v_and, v_or, v_if, bol_b, v_andV, v_orV, v_notV, v_chain, v_lst, v_tup, szR_0, szR_1, szR_2, szR_3, szR_4, szR_5, szR_6, szR_7, szR_8, szR_9, szR_10, szR_11, szR_12, szR_13, szR_14, v_L, v_mu, v_Q, v_P0, iOf_i, v_P, v_sl, v_meth, v_par, v_ifS, v_set, v_setOw, v_ret, v_drop, v_for, v_lam, oCatL_le, oCatQ_le, oAdd_l, oAdd_t, oMul_l2, oMul_l3, oMul_l4, oMul_l5, Nat.reduceLeDiff, oItems_l, oItems_t, oItems_s, oItemsQ_i, oSl_l, oSl_t, oSl_sc, oTupOf_i, oLstOf_i, oSum_i, oAll_i, oAny_i, oMod_p, oDiv_p, oMul_L, oMul_R, oPow_6, oPow_12, oPow_18, oPow_20, oPow_36, oInt_i, oInt_b, oAbs_i, oLen_l, oLen_t, oLenQ_i, oIx_mu, at_0, at_1, at_2, at_3, at_4, at_5, ix5_0, ix5_1, ix5_2, ix5_3, ix5_4, Int.reduceLT, Int.reduceNeg, Int.reduceAdd, Int.reduceSub, Int.reduceMul, oAdd_i, oSub_i, oNeg_i, oLt_i, oLe_i, oGt_i, oGe_i, oMin_i, oMax_i, oEq_i, oNe_i, oEq_s, oNe_s, oIxQ_i, oIx_l, oIx_t, asB_b, asQ_l, asQ_t, v_var, var_fz, v_app, app_ow, v_ext, ext_ow, v_frzE, frs_ow, frs_fz, v_own, own_fl, own_ft, own_ow, own_sh, lp_nx, lp_ct, lp_bk, lp_rt, lp_exc, lp_bad, lp_ite, ag_some, ag_none, fl_nil, fl_cons, g_N, g_nil, g_cons, g_T, o_some, v_asg, v_try, try_exc, try_nx, try_rt, trE_rt, trE_nx, v_thkE, v_thkR, thk_rv, said_nx, said_rt, v_isE, isE_rv, v_wipeR, v_callL, callL_fn, lkL_some, v_store, may_ow, may_fz, may_t, sto_ow, sto_mu, ixO_s, List.getElem?_cons_succ, List.getElem?_cons_zero, List.set_cons_succ, List.set_cons_zero, startE, List.zipWith, List.replicate, List.length_cons, List.length_nil, List.cons_append, List.nil_append, setE, Nat.reduceSub, Nat.reduceAdd, if_true, if_false, ite_true, ite_false, Bool.not_true, Bool.not_false, Bool.false_eq_true,
         k]
  cases d with
  | str z =>
    have hz := h.ln z rfl
    have ek : (L2.kitB (kindD (.str z)) "str").map PyData.bool = some (.bool true) := rfl
    simp (config := {implicitDefEqProofs := false}) only [b_ok, b_exc, b_bad, b_ite, l_some, l_none, of_ok, of_exc, of_bad, of_ite, sq_nx, sq_rt, sq_bk, sq_ct, sq_exc, sq_bad, sq_ite, fn_nx, fn_rt, fn_exc, fn_bad, fn_ite, v_mkF, v_seq, v_next, v_retN, v_brk, v_cont, v_raise, v_frz, v_bin, v_op1, v_c, v_nil, v_cons, v_consO, v_call, v_test, v_not, v_and, v_or, v_if, bol_b, v_andV, v_orV, v_notV, v_chain, v_lst, v_tup, szR_0, szR_1, szR_2, szR_3, szR_4, szR_5, szR_6, szR_7, szR_8, szR_9, szR_10, szR_11, szR_12, szR_13, szR_14, v_L, v_mu, v_Q, v_P0, iOf_i, v_P, v_sl, v_meth, v_par, v_ifS, v_set, v_setOw, v_ret, v_drop, v_for, v_lam, oCatL_le, oCatQ_le, oAdd_l, oAdd_t, oMul_l2, oMul_l3, oMul_l4, oMul_l5, Nat.reduceLeDiff, oItems_l, oItems_t, oItems_s, oItemsQ_i, oSl_l, oSl_t, oSl_sc, oTupOf_i, oLstOf_i, oSum_i, oAll_i, oAny_i, oMod_p, oDiv_p, oMul_L, oMul_R, oPow_6, oPow_12, oPow_18, oPow_20, oPow_36, oInt_i, oInt_b, oAbs_i, oLen_l, oLen_t, oLenQ_i, oIx_mu, at_0, at_1, at_2, at_3, at_4, at_5, ix5_0, ix5_1, ix5_2, ix5_3, ix5_4, Int.reduceLT, Int.reduceNeg, Int.reduceAdd, Int.reduceSub, Int.reduceMul, oAdd_i, oSub_i, oNeg_i, oLt_i, oLe_i, oGt_i, oGe_i, oMin_i, oMax_i, oEq_i, oNe_i, oEq_s, oNe_s, oIxQ_i, oIx_l, oIx_t, asB_b, asQ_l, asQ_t, v_var, var_fz, v_app, app_ow, v_ext, ext_ow, v_frzE, frs_ow, frs_fz, v_own, own_fl, own_ft, own_ow, own_sh, lp_nx, lp_ct, lp_bk, lp_rt, lp_exc, lp_bad, lp_ite, ag_some, ag_none, fl_nil, fl_cons, g_N, g_nil, g_cons, g_T, o_some, v_asg, v_try, try_exc, try_nx, try_rt, trE_rt, trE_nx, v_thkE, v_thkR, thk_rv, said_nx, said_rt, v_isE, isE_rv, v_wipeR, v_callL, callL_fn, lkL_some, v_store, may_ow, may_fz, may_t, sto_ow, sto_mu, ixO_s, List.getElem?_cons_succ, List.getElem?_cons_zero, List.set_cons_succ, List.set_cons_zero, startE, List.zipWith, List.replicate, List.length_cons, List.length_nil, List.cons_append, List.nil_append, setE, Nat.reduceSub, Nat.reduceAdd, if_true, if_false, ite_true, ite_false, Bool.not_true, Bool.not_false, Bool.false_eq_true,
           ek, oLen_s (z := z) (show z.length ≤ 1000000 by omega), q_dig hz, all_dig]
    show _ = R.ok (PyData.bool (six z)) s
    unfold six
    by_cases h6 : z.length = 6
    · rw [decide_eq_true h6, h6]
      simp (config := {implicitDefEqProofs := false}) only [b_ok, b_exc, b_bad, b_ite, l_some, l_none, of_ok, of_exc, of_bad, of_ite, sq_nx, sq_rt, sq_bk, sq_ct, sq_exc, sq_bad, sq_ite, fn_nx, fn_rt, fn_exc, fn_bad, fn_ite, v_mkF, v_seq, v_next, v_retN, v_brk, v_cont, v_raise, v_frz, v_bin, v_op1, v_c, v_nil, v_cons, v_consO, v_call, v_test, v_not, v_and, v_or, v_if, bol_b, v_andV, v_orV, v_notV, v_chain, v_lst, v_tup, szR_0, szR_1, szR_2, szR_3, szR_4, szR_5, szR_6, szR_7, szR_8, szR_9, szR_10, szR_11, szR_12, szR_13, szR_14, v_L, v_mu, v_Q, v_P0, iOf_i, v_P, v_sl, v_meth, v_par, v_ifS, v_set, v_setOw, v_ret, v_drop, v_for, v_lam, oCatL_le, oCatQ_le, oAdd_l, oAdd_t, oMul_l2, oMul_l3, oMul_l4, oMul_l5, Nat.reduceLeDiff, oItems_l, oItems_t, oItems_s, oItemsQ_i, oSl_l, oSl_t, oSl_sc, oTupOf_i, oLstOf_i, oSum_i, oAll_i, oAny_i, oMod_p, oDiv_p, oMul_L, oMul_R, oPow_6, oPow_12, oPow_18, oPow_20, oPow_36, oInt_i, oInt_b, oAbs_i, oLen_l, oLen_t, oLenQ_i, oIx_mu, at_0, at_1, at_2, at_3, at_4, at_5, ix5_0, ix5_1, ix5_2, ix5_3, ix5_4, Int.reduceLT, Int.reduceNeg, Int.reduceAdd, Int.reduceSub, Int.reduceMul, oAdd_i, oSub_i, oNeg_i, oLt_i, oLe_i, oGt_i, oGe_i, oMin_i, oMax_i, oEq_i, oNe_i, oEq_s, oNe_s, oIxQ_i, oIx_l, oIx_t, asB_b, asQ_l, asQ_t, v_var, var_fz, v_app, app_ow, v_ext, ext_ow, v_frzE, frs_ow, frs_fz, v_own, own_fl, own_ft, own_ow, own_sh, lp_nx, lp_ct, lp_bk, lp_rt, lp_exc, lp_bad, lp_ite, ag_some, ag_none, fl_nil, fl_cons, g_N, g_nil, g_cons, g_T, o_some, v_asg, v_try, try_exc, try_nx, try_rt, trE_rt, trE_nx, v_thkE, v_thkR, thk_rv, said_nx, said_rt, v_isE, isE_rv, v_wipeR, v_callL, callL_fn, lkL_some, v_store, may_ow, may_fz, may_t, sto_ow, sto_mu, ixO_s, List.getElem?_cons_succ, List.getElem?_cons_zero, List.set_cons_succ, List.set_cons_zero, startE, List.zipWith, List.replicate, List.length_cons, List.length_nil, List.cons_append, List.nil_append, setE, Nat.reduceSub, Nat.reduceAdd, if_true, if_false, ite_true, ite_false, Bool.not_true, Bool.not_false, Bool.false_eq_true,
             show decide ((6 : Int) ≤ ((6 : Nat) : Int)) = true from rfl, show decide (((6 : Nat) : Int) ≤ (6 : Int)) = true from rfl, decide_true, Bool.true_and]
    · rw [decide_eq_false h6, Bool.false_and]
      by_cases c : (6 : Int) ≤ z.length
      · simp (config := {implicitDefEqProofs := false}) only [b_ok, b_exc, b_bad, b_ite, l_some, l_none, of_ok, of_exc, of_bad, of_ite, sq_nx, sq_rt, sq_bk, sq_ct, sq_exc, sq_bad, sq_ite, fn_nx, fn_rt, fn_exc, fn_bad, fn_ite, v_mkF, v_seq, v_next, v_retN, v_brk, v_cont, v_raise, v_frz, v_bin, v_op1, v_c, v_nil, v_cons, v_consO, v_call, v_test, v_not, v_and, v_or, v_if, bol_b, v_andV, v_orV, v_notV, v_chain, v_lst, v_tup, szR_0, szR_1, szR_2, szR_3, szR_4, szR_5, szR_6, szR_7, szR_8, szR_9, szR_10, szR_11, szR_12, szR_13, szR_14, v_L, v_mu, v_Q, v_P0, iOf_i, v_P, v_sl, v_meth, v_par, v_ifS, v_set, v_setOw, v_ret, v_drop, v_for, v_lam, oCatL_le, oCatQ_le, oAdd_l, oAdd_t, oMul_l2, oMul_l3, oMul_l4, oMul_l5, Nat.reduceLeDiff, oItems_l, oItems_t, oItems_s, oItemsQ_i, oSl_l, oSl_t, oSl_sc, oTupOf_i, oLstOf_i, oSum_i, oAll_i, oAny_i, oMod_p, oDiv_p, oMul_L, oMul_R, oPow_6, oPow_12, oPow_18, oPow_20, oPow_36, oInt_i, oInt_b, oAbs_i, oLen_l, oLen_t, oLenQ_i, oIx_mu, at_0, at_1, at_2, at_3, at_4, at_5, ix5_0, ix5_1, ix5_2, ix5_3, ix5_4, Int.reduceLT, Int.reduceNeg, Int.reduceAdd, Int.reduceSub, Int.reduceMul, oAdd_i, oSub_i, oNeg_i, oLt_i, oLe_i, oGt_i, oGe_i, oMin_i, oMax_i, oEq_i, oNe_i, oEq_s, oNe_s, oIxQ_i, oIx_l, oIx_t, asB_b, asQ_l, asQ_t, v_var, var_fz, v_app, app_ow, v_ext, ext_ow, v_frzE, frs_ow, frs_fz, v_own, own_fl, own_ft, own_ow, own_sh, lp_nx, lp_ct, lp_bk, lp_rt, lp_exc, lp_bad, lp_ite, ag_some, ag_none, fl_nil, fl_cons, g_N, g_nil, g_cons, g_T, o_some, v_asg, v_try, try_exc, try_nx, try_rt, trE_rt, trE_nx, v_thkE, v_thkR, thk_rv, said_nx, said_rt, v_isE, isE_rv, v_wipeR, v_callL, callL_fn, lkL_some, v_store, may_ow, may_fz, may_t, sto_ow, sto_mu, ixO_s, List.getElem?_cons_succ, List.getElem?_cons_zero, List.set_cons_succ, List.set_cons_zero, startE, List.zipWith, List.replicate, List.length_cons, List.length_nil, List.cons_append, List.nil_append, setE, Nat.reduceSub, Nat.reduceAdd, if_true, if_false, ite_true, ite_false, Bool.not_true, Bool.not_false, Bool.false_eq_true,
               c, decide_true, show ¬ ((z.length : Int) ≤ 6) by omega, decide_false]
      · simp (config := {implicitDefEqProofs := false}) only [b_ok, b_exc, b_bad, b_ite, l_some, l_none, of_ok, of_exc, of_bad, of_ite, sq_nx, sq_rt, sq_bk, sq_ct, sq_exc, sq_bad, sq_ite, fn_nx, fn_rt, fn_exc, fn_bad, fn_ite, v_mkF, v_seq, v_next, v_retN, v_brk, v_cont, v_raise, v_frz, v_bin, v_op1, v_c, v_nil, v_cons, v_consO, v_call, v_test, v_not, v_and, v_or, v_if, bol_b, v_andV, v_orV, v_notV, v_chain, v_lst, v_tup, szR_0, szR_1, szR_2, szR_3, szR_4, szR_5, szR_6, szR_7, szR_8, szR_9, szR_10, szR_11, szR_12, szR_13, szR_14, v_L, v_mu, v_Q, v_P0, iOf_i, v_P, v_sl, v_meth, v_par, v_ifS, v_set, v_setOw, v_ret, v_drop, v_for, v_lam, oCatL_le, oCatQ_le, oAdd_l, oAdd_t, oMul_l2, oMul_l3, oMul_l4, oMul_l5, Nat.reduceLeDiff, oItems_l, oItems_t, oItems_s, oItemsQ_i, oSl_l, oSl_t, oSl_sc, oTupOf_i, oLstOf_i, oSum_i, oAll_i, oAny_i, oMod_p, oDiv_p, oMul_L, oMul_R, oPow_6, oPow_12, oPow_18, oPow_20, oPow_36, oInt_i, oInt_b, oAbs_i, oLen_l, oLen_t, oLenQ_i, oIx_mu, at_0, at_1, at_2, at_3, at_4, at_5, ix5_0, ix5_1, ix5_2, ix5_3, ix5_4, Int.reduceLT, Int.reduceNeg, Int.reduceAdd, Int.reduceSub, Int.reduceMul, oAdd_i, oSub_i, oNeg_i, oLt_i, oLe_i, oGt_i, oGe_i, oMin_i, oMax_i, oEq_i, oNe_i, oEq_s, oNe_s, oIxQ_i, oIx_l, oIx_t, asB_b, asQ_l, asQ_t, v_var, var_fz, v_app, app_ow, v_ext, ext_ow, v_frzE, frs_ow, frs_fz, v_own, own_fl, own_ft, own_ow, own_sh, lp_nx, lp_ct, lp_bk, lp_rt, lp_exc, lp_bad, lp_ite, ag_some, ag_none, fl_nil, fl_cons, g_N, g_nil, g_cons, g_T, o_some, v_asg, v_try, try_exc, try_nx, try_rt, trE_rt, trE_nx, v_thkE, v_thkR, thk_rv, said_nx, said_rt, v_isE, isE_rv, v_wipeR, v_callL, callL_fn, lkL_some, v_store, may_ow, may_fz, may_t, sto_ow, sto_mu, ixO_s, List.getElem?_cons_succ, List.getElem?_cons_zero, List.set_cons_succ, List.set_cons_zero, startE, List.zipWith, List.replicate, List.length_cons, List.length_nil, List.cons_append, List.nil_append, setE, Nat.reduceSub, Nat.reduceAdd, if_true, if_false, ite_true, ite_false, Bool.not_true, Bool.not_false, Bool.false_eq_true,
               c, decide_false]
  | dict l =>
    have ek : (L2.kitB (kindD (.dict l)) "str").map PyData.bool = some (.bool false) := rfl
    simp (config := {implicitDefEqProofs := false}) only [b_ok, b_exc, b_bad, b_ite, l_some, l_none, of_ok, of_exc, of_bad, of_ite, sq_nx, sq_rt, sq_bk, sq_ct, sq_exc, sq_bad, sq_ite, fn_nx, fn_rt, fn_exc, fn_bad, fn_ite, v_mkF, v_seq, v_next, v_retN, v_brk, v_cont, v_raise, v_frz, v_bin, v_op1, v_c, v_nil, v_cons, v_consO, v_call, v_test, v_not, v_and, v_or, v_if, bol_b, v_andV, v_orV, v_notV, v_chain, v_lst, v_tup, szR_0, szR_1, szR_2, szR_3, szR_4, szR_5, szR_6, szR_7, szR_8, szR_9, szR_10, szR_11, szR_12, szR_13, szR_14, v_L, v_mu, v_Q, v_P0, iOf_i, v_P, v_sl, v_meth, v_par, v_ifS, v_set, v_setOw, v_ret, v_drop, v_for, v_lam, oCatL_le, oCatQ_le, oAdd_l, oAdd_t, oMul_l2, oMul_l3, oMul_l4, oMul_l5, Nat.reduceLeDiff, oItems_l, oItems_t, oItems_s, oItemsQ_i, oSl_l, oSl_t, oSl_sc, oTupOf_i, oLstOf_i, oSum_i, oAll_i, oAny_i, oMod_p, oDiv_p, oMul_L, oMul_R, oPow_6, oPow_12, oPow_18, oPow_20, oPow_36, oInt_i, oInt_b, oAbs_i, oLen_l, oLen_t, oLenQ_i, oIx_mu, at_0, at_1, at_2, at_3, at_4, at_5, ix5_0, ix5_1, ix5_2, ix5_3, ix5_4, Int.reduceLT, Int.reduceNeg, Int.reduceAdd, Int.reduceSub, Int.reduceMul, oAdd_i, oSub_i, oNeg_i, oLt_i, oLe_i, oGt_i, oGe_i, oMin_i, oMax_i, oEq_i, oNe_i, oEq_s, oNe_s, oIxQ_i, oIx_l, oIx_t, asB_b, asQ_l, asQ_t, v_var, var_fz, v_app, app_ow, v_ext, ext_ow, v_frzE, frs_ow, frs_fz, v_own, own_fl, own_ft, own_ow, own_sh, lp_nx, lp_ct, lp_bk, lp_rt, lp_exc, lp_bad, lp_ite, ag_some, ag_none, fl_nil, fl_cons, g_N, g_nil, g_cons, g_T, o_some, v_asg, v_try, try_exc, try_nx, try_rt, trE_rt, trE_nx, v_thkE, v_thkR, thk_rv, said_nx, said_rt, v_isE, isE_rv, v_wipeR, v_callL, callL_fn, lkL_some, v_store, may_ow, may_fz, may_t, sto_ow, sto_mu, ixO_s, List.getElem?_cons_succ, List.getElem?_cons_zero, List.set_cons_succ, List.set_cons_zero, startE, List.zipWith, List.replicate, List.length_cons, List.length_nil, List.cons_append, List.nil_append, setE, Nat.reduceSub, Nat.reduceAdd, if_true, if_false, ite_true, ite_false, Bool.not_true, Bool.not_false, Bool.false_eq_true,
           ek]; rfl
  | none => simp (config := {implicitDefEqProofs := false}) only [b_ok, b_exc, b_bad, b_ite, l_some, l_none, of_ok, of_exc, of_bad, of_ite, sq_nx, sq_rt, sq_bk, sq_ct, sq_exc, sq_bad, sq_ite, fn_nx, fn_rt, fn_exc, fn_bad, fn_ite, v_mkF, v_seq, v_next, v_retN, v_brk, v_cont, v_raise, v_frz, v_bin, v_op1, v_c, v_nil, v_cons, v_consO, v_call, v_test, v_not, v_and, v_or, v_if, bol_b, v_andV, v_orV, v_notV, v_chain, v_lst, v_tup, szR_0, szR_1, szR_2, szR_3, szR_4, szR_5, szR_6, szR_7, szR_8, szR_9, szR_10, szR_11, szR_12, szR_13, szR_14, v_L, v_mu, v_Q, v_P0, iOf_i, v_P, v_sl, v_meth, v_par, v_ifS, v_set, v_setOw, v_ret, v_drop, v_for, v_lam, oCatL_le, oCatQ_le, oAdd_l, oAdd_t, oMul_l2, oMul_l3, oMul_l4, oMul_l5, Nat.reduceLeDiff, oItems_l, oItems_t, oItems_s, oItemsQ_i, oSl_l, oSl_t, oSl_sc, oTupOf_i, oLstOf_i, oSum_i, oAll_i, oAny_i, oMod_p, oDiv_p, oMul_L, oMul_R, oPow_6, oPow_12, oPow_18, oPow_20, oPow_36, oInt_i, oInt_b, oAbs_i, oLen_l, oLen_t, oLenQ_i, oIx_mu, at_0, at_1, at_2, at_3, at_4, at_5, ix5_0, ix5_1, ix5_2, ix5_3, ix5_4, Int.reduceLT, Int.reduceNeg, Int.reduceAdd, Int.reduceSub, Int.reduceMul, oAdd_i, oSub_i, oNeg_i, oLt_i, oLe_i, oGt_i, oGe_i, oMin_i, oMax_i, oEq_i, oNe_i, oEq_s, oNe_s, oIxQ_i, oIx_l, oIx_t, asB_b, asQ_l, asQ_t, v_var, var_fz, v_app, app_ow, v_ext, ext_ow, v_frzE, frs_ow, frs_fz, v_own, own_fl, own_ft, own_ow, own_sh, lp_nx, lp_ct, lp_bk, lp_rt, lp_exc, lp_bad, lp_ite, ag_some, ag_none, fl_nil, fl_cons, g_N, g_nil, g_cons, g_T, o_some, v_asg, v_try, try_exc, try_nx, try_rt, trE_rt, trE_nx, v_thkE, v_thkR, thk_rv, said_nx, said_rt, v_isE, isE_rv, v_wipeR, v_callL, callL_fn, lkL_some, v_store, may_ow, may_fz, may_t, sto_ow, sto_mu, ixO_s, List.getElem?_cons_succ, List.getElem?_cons_zero, List.set_cons_succ, List.set_cons_zero, startE, List.zipWith, List.replicate, List.length_cons, List.length_nil, List.cons_append, List.nil_append, setE, Nat.reduceSub, Nat.reduceAdd, if_true, if_false, ite_true, ite_false, Bool.not_true, Bool.not_false, Bool.false_eq_true,
                   show (L2.kitB (kindD .none) "str").map PyData.bool = some (.bool false) from rfl]; rfl
  | bool b => simp (config := {implicitDefEqProofs := false}) only [b_ok, b_exc, b_bad, b_ite, l_some, l_none, of_ok, of_exc, of_bad, of_ite, sq_nx, sq_rt, sq_bk, sq_ct, sq_exc, sq_bad, sq_ite, fn_nx, fn_rt, fn_exc, fn_bad, fn_ite, v_mkF, v_seq, v_next, v_retN, v_brk, v_cont, v_raise, v_frz, v_bin, v_op1, v_c, v_nil, v_cons, v_consO, v_call, v_test, v_not, v_and, v_or, v_if, bol_b, v_andV, v_orV, v_notV, v_chain, v_lst, v_tup, szR_0, szR_1, szR_2, szR_3, szR_4, szR_5, szR_6, szR_7, szR_8, szR_9, szR_10, szR_11, szR_12, szR_13, szR_14, v_L, v_mu, v_Q, v_P0, iOf_i, v_P, v_sl, v_meth, v_par, v_ifS, v_set, v_setOw, v_ret, v_drop, v_for, v_lam, oCatL_le, oCatQ_le, oAdd_l, oAdd_t, oMul_l2, oMul_l3, oMul_l4, oMul_l5, Nat.reduceLeDiff, oItems_l, oItems_t, oItems_s, oItemsQ_i, oSl_l, oSl_t, oSl_sc, oTupOf_i, oLstOf_i, oSum_i, oAll_i, oAny_i, oMod_p, oDiv_p, oMul_L, oMul_R, oPow_6, oPow_12, oPow_18, oPow_20, oPow_36, oInt_i, oInt_b, oAbs_i, oLen_l, oLen_t, oLenQ_i, oIx_mu, at_0, at_1, at_2, at_3, at_4, at_5, ix5_0, ix5_1, ix5_2, ix5_3, ix5_4, Int.reduceLT, Int.reduceNeg, Int.reduceAdd, Int.reduceSub, Int.reduceMul, oAdd_i, oSub_i, oNeg_i, oLt_i, oLe_i, oGt_i, oGe_i, oMin_i, oMax_i, oEq_i, oNe_i, oEq_s, oNe_s, oIxQ_i, oIx_l, oIx_t, asB_b, asQ_l, asQ_t, v_var, var_fz, v_app, app_ow, v_ext, ext_ow, v_frzE, frs_ow, frs_fz, v_own, own_fl, own_ft, own_ow, own_sh, lp_nx, lp_ct, lp_bk, lp_rt, lp_exc, lp_bad, lp_ite, ag_some, ag_none, fl_nil, fl_cons, g_N, g_nil, g_cons, g_T, o_some, v_asg, v_try, try_exc, try_nx, try_rt, trE_rt, trE_nx, v_thkE, v_thkR, thk_rv, said_nx, said_rt, v_isE, isE_rv, v_wipeR, v_callL, callL_fn, lkL_some, v_store, may_ow, may_fz, may_t, sto_ow, sto_mu, ixO_s, List.getElem?_cons_succ, List.getElem?_cons_zero, List.set_cons_succ, List.set_cons_zero, startE, List.zipWith, List.replicate, List.length_cons, List.length_nil, List.cons_append, List.nil_append, setE, Nat.reduceSub, Nat.reduceAdd, if_true, if_false, ite_true, ite_false, Bool.not_true, Bool.not_false, Bool.false_eq_true,
                     show (L2.kitB (kindD (.bool b)) "str").map PyData.bool = some (.bool false) from rfl]; rfl
  | int b => simp (config := {implicitDefEqProofs := false}) only [b_ok, b_exc, b_bad, b_ite, l_some, l_none, of_ok, of_exc, of_bad, of_ite, sq_nx, sq_rt, sq_bk, sq_ct, sq_exc, sq_bad, sq_ite, fn_nx, fn_rt, fn_exc, fn_bad, fn_ite, v_mkF, v_seq, v_next, v_retN, v_brk, v_cont, v_raise, v_frz, v_bin, v_op1, v_c, v_nil, v_cons, v_consO, v_call, v_test, v_not, v_and, v_or, v_if, bol_b, v_andV, v_orV, v_notV, v_chain, v_lst, v_tup, szR_0, szR_1, szR_2, szR_3, szR_4, szR_5, szR_6, szR_7, szR_8, szR_9, szR_10, szR_11, szR_12, szR_13, szR_14, v_L, v_mu, v_Q, v_P0, iOf_i, v_P, v_sl, v_meth, v_par, v_ifS, v_set, v_setOw, v_ret, v_drop, v_for, v_lam, oCatL_le, oCatQ_le, oAdd_l, oAdd_t, oMul_l2, oMul_l3, oMul_l4, oMul_l5, Nat.reduceLeDiff, oItems_l, oItems_t, oItems_s, oItemsQ_i, oSl_l, oSl_t, oSl_sc, oTupOf_i, oLstOf_i, oSum_i, oAll_i, oAny_i, oMod_p, oDiv_p, oMul_L, oMul_R, oPow_6, oPow_12, oPow_18, oPow_20, oPow_36, oInt_i, oInt_b, oAbs_i, oLen_l, oLen_t, oLenQ_i, oIx_mu, at_0, at_1, at_2, at_3, at_4, at_5, ix5_0, ix5_1, ix5_2, ix5_3, ix5_4, Int.reduceLT, Int.reduceNeg, Int.reduceAdd, Int.reduceSub, Int.reduceMul, oAdd_i, oSub_i, oNeg_i, oLt_i, oLe_i, oGt_i, oGe_i, oMin_i, oMax_i, oEq_i, oNe_i, oEq_s, oNe_s, oIxQ_i, oIx_l, oIx_t, asB_b, asQ_l, asQ_t, v_var, var_fz, v_app, app_ow, v_ext, ext_ow, v_frzE, frs_ow, frs_fz, v_own, own_fl, own_ft, own_ow, own_sh, lp_nx, lp_ct, lp_bk, lp_rt, lp_exc, lp_bad, lp_ite, ag_some, ag_none, fl_nil, fl_cons, g_N, g_nil, g_cons, g_T, o_some, v_asg, v_try, try_exc, try_nx, try_rt, trE_rt, trE_nx, v_thkE, v_thkR, thk_rv, said_nx, said_rt, v_isE, isE_rv, v_wipeR, v_callL, callL_fn, lkL_some, v_store, may_ow, may_fz, may_t, sto_ow, sto_mu, ixO_s, List.getElem?_cons_succ, List.getElem?_cons_zero, List.set_cons_succ, List.set_cons_zero, startE, List.zipWith, List.replicate, List.length_cons, List.length_nil, List.cons_append, List.nil_append, setE, Nat.reduceSub, Nat.reduceAdd, if_true, if_false, ite_true, ite_false, Bool.not_true, Bool.not_false, Bool.false_eq_true,
                    show (L2.kitB (kindD (.int b)) "str").map PyData.bool = some (.bool false) from rfl]; rfl
  | list b => simp (config := {implicitDefEqProofs := false}) only [b_ok, b_exc, b_bad, b_ite, l_some, l_none, of_ok, of_exc, of_bad, of_ite, sq_nx, sq_rt, sq_bk, sq_ct, sq_exc, sq_bad, sq_ite, fn_nx, fn_rt, fn_exc, fn_bad, fn_ite, v_mkF, v_seq, v_next, v_retN, v_brk, v_cont, v_raise, v_frz, v_bin, v_op1, v_c, v_nil, v_cons, v_consO, v_call, v_test, v_not, v_and, v_or, v_if, bol_b, v_andV, v_orV, v_notV, v_chain, v_lst, v_tup, szR_0, szR_1, szR_2, szR_3, szR_4, szR_5, szR_6, szR_7, szR_8, szR_9, szR_10, szR_11, szR_12, szR_13, szR_14, v_L, v_mu, v_Q, v_P0, iOf_i, v_P, v_sl, v_meth, v_par, v_ifS, v_set, v_setOw, v_ret, v_drop, v_for, v_lam, oCatL_le, oCatQ_le, oAdd_l, oAdd_t, oMul_l2, oMul_l3, oMul_l4, oMul_l5, Nat.reduceLeDiff, oItems_l, oItems_t, oItems_s, oItemsQ_i, oSl_l, oSl_t, oSl_sc, oTupOf_i, oLstOf_i, oSum_i, oAll_i, oAny_i, oMod_p, oDiv_p, oMul_L, oMul_R, oPow_6, oPow_12, oPow_18, oPow_20, oPow_36, oInt_i, oInt_b, oAbs_i, oLen_l, oLen_t, oLenQ_i, oIx_mu, at_0, at_1, at_2, at_3, at_4, at_5, ix5_0, ix5_1, ix5_2, ix5_3, ix5_4, Int.reduceLT, Int.reduceNeg, Int.reduceAdd, Int.reduceSub, Int.reduceMul, oAdd_i, oSub_i, oNeg_i, oLt_i, oLe_i, oGt_i, oGe_i, oMin_i, oMax_i, oEq_i, oNe_i, oEq_s, oNe_s, oIxQ_i, oIx_l, oIx_t, asB_b, asQ_l, asQ_t, v_var, var_fz, v_app, app_ow, v_ext, ext_ow, v_frzE, frs_ow, frs_fz, v_own, own_fl, own_ft, own_ow, own_sh, lp_nx, lp_ct, lp_bk, lp_rt, lp_exc, lp_bad, lp_ite, ag_some, ag_none, fl_nil, fl_cons, g_N, g_nil, g_cons, g_T, o_some, v_asg, v_try, try_exc, try_nx, try_rt, trE_rt, trE_nx, v_thkE, v_thkR, thk_rv, said_nx, said_rt, v_isE, isE_rv, v_wipeR, v_callL, callL_fn, lkL_some, v_store, may_ow, may_fz, may_t, sto_ow, sto_mu, ixO_s, List.getElem?_cons_succ, List.getElem?_cons_zero, List.set_cons_succ, List.set_cons_zero, startE, List.zipWith, List.replicate, List.length_cons, List.length_nil, List.cons_append, List.nil_append, setE, Nat.reduceSub, Nat.reduceAdd, if_true, if_false, ite_true, ite_false, Bool.not_true, Bool.not_false, Bool.false_eq_true,
                     show (L2.kitB (kindD (.list b)) "str").map PyData.bool = some (.bool false) from rfl]; rfl
  | tuple b => simp (config := {implicitDefEqProofs := false}) only [b_ok, b_exc, b_bad, b_ite, l_some, l_none, of_ok, of_exc, of_bad, of_ite, sq_nx, sq_rt, sq_bk, sq_ct, sq_exc, sq_bad, sq_ite, fn_nx, fn_rt, fn_exc, fn_bad, fn_ite, v_mkF, v_seq, v_next, v_retN, v_brk, v_cont, v_raise, v_frz, v_bin, v_op1, v_c, v_nil, v_cons, v_consO, v_call, v_test, v_not, v_and, v_or, v_if, bol_b, v_andV, v_orV, v_notV, v_chain, v_lst, v_tup, szR_0, szR_1, szR_2, szR_3, szR_4, szR_5, szR_6, szR_7, szR_8, szR_9, szR_10, szR_11, szR_12, szR_13, szR_14, v_L, v_mu, v_Q, v_P0, iOf_i, v_P, v_sl, v_meth, v_par, v_ifS, v_set, v_setOw, v_ret, v_drop, v_for, v_lam, oCatL_le, oCatQ_le, oAdd_l, oAdd_t, oMul_l2, oMul_l3, oMul_l4, oMul_l5, Nat.reduceLeDiff, oItems_l, oItems_t, oItems_s, oItemsQ_i, oSl_l, oSl_t, oSl_sc, oTupOf_i, oLstOf_i, oSum_i, oAll_i, oAny_i, oMod_p, oDiv_p, oMul_L, oMul_R, oPow_6, oPow_12, oPow_18, oPow_20, oPow_36, oInt_i, oInt_b, oAbs_i, oLen_l, oLen_t, oLenQ_i, oIx_mu, at_0, at_1, at_2, at_3, at_4, at_5, ix5_0, ix5_1, ix5_2, ix5_3, ix5_4, Int.reduceLT, Int.reduceNeg, Int.reduceAdd, Int.reduceSub, Int.reduceMul, oAdd_i, oSub_i, oNeg_i, oLt_i, oLe_i, oGt_i, oGe_i, oMin_i, oMax_i, oEq_i, oNe_i, oEq_s, oNe_s, oIxQ_i, oIx_l, oIx_t, asB_b, asQ_l, asQ_t, v_var, var_fz, v_app, app_ow, v_ext, ext_ow, v_frzE, frs_ow, frs_fz, v_own, own_fl, own_ft, own_ow, own_sh, lp_nx, lp_ct, lp_bk, lp_rt, lp_exc, lp_bad, lp_ite, ag_some, ag_none, fl_nil, fl_cons, g_N, g_nil, g_cons, g_T, o_some, v_asg, v_try, try_exc, try_nx, try_rt, trE_rt, trE_nx, v_thkE, v_thkR, thk_rv, said_nx, said_rt, v_isE, isE_rv, v_wipeR, v_callL, callL_fn, lkL_some, v_store, may_ow, may_fz, may_t, sto_ow, sto_mu, ixO_s, List.getElem?_cons_succ, List.getElem?_cons_zero, List.set_cons_succ, List.set_cons_zero, startE, List.zipWith, List.replicate, List.length_cons, List.length_nil, List.cons_append, List.nil_append, setE, Nat.reduceSub, Nat.reduceAdd, if_true, if_false, ite_true, ite_false, Bool.not_true, Bool.not_false, Bool.false_eq_true,
                      show (L2.kitB (kindD (.tuple b)) "str").map PyData.bool = some (.bool false) from rfl]; rfl
end K76

set_option Elab.async false
set_option maxRecDepth 100000
set_option maxHeartbeats 1000000
set_option linter.all false
namespace K76
open PySem Dn
def good3 (p q r : Nat) : Bool := (decide ((1 : Int) ≤ q) && decide ((q : Int) ≤ 12)) && (decide ((1 : Int) ≤ p) && decide ((p : Int) ≤ ml q r))
theorem mk_sl {z : Str} {p q r : Nat} (h : Mk z p q r) (s : S) : oInt (.str (Txt.slice z none (some 2))) s = some (.int p) ∧ oInt (.str (Txt.slice z (some 2) (some 4))) s = some (.int q) ∧ oInt (.str (Txt.slice z (some 4) none)) s = some (.int r) := by
  obtain ⟨a, b, c', d', e, f, rfl, h3, e1, e2, e3⟩ := h.ex
  exact ⟨by rw [sl1]; exact oInt_S2 e1 s, by rw [sl2]; exact oInt_S2 e2 s, by rw [sl3]; exact oInt_S2 e3 s⟩
theorem th_six {z : Str} (h : z.length = 6) : Th_ (.str z) := ⟨rfl, fun z' e => by cases e; omega⟩
theorem in_months : ∀ k : Fin 100, inD (.int (k.val : Int)) (.tuple [.int 4, .int 6, .int 9, .int 11]) = some (decide (k.val = 4 ∨ k.val = 6 ∨ k.val = 9 ∨ k.val = 11)) := by decide +kernel
theorem e_both {z : Str} {p q r : Nat} (mk : Mk z p q r) (s : S) : mf_are_mark [.str z] s = .ok (.bool (good3 p q r)) s ∧ mf__law_is_mark [.str z] s = .ok (.bool (good3 p q r)) s := by
  have hl := mk_len mk
  have c := mk_six mk
  refine ⟨?_, ?_⟩
  · unfold mf_are_mark m_are_mark
    simp (config := {implicitDefEqProofs := false}) only [b_ok, b_exc, b_bad, b_ite, l_some, l_none, of_ok, of_exc, of_bad, of_ite, sq_nx, sq_rt, sq_bk, sq_ct, sq_exc, sq_bad, sq_ite, fn_nx, fn_rt, fn_exc, fn_bad, fn_ite, v_mkF, v_seq, v_next, v_retN, v_brk, v_cont, v_raise, v_frz, v_bin, v_op1, v_c, v_nil, v_cons, v_consO, v_call, v_test, v_not, v_and, v_or, v_if, bol_b, v_andV, v_orV, v_notV, v_chain, v_lst, v_tup, szR_0, szR_1, szR_2, szR_3, szR_4, szR_5, szR_6, szR_7, szR_8, szR_9, szR_10, szR_11, szR_12, szR_13, szR_14, v_L, v_mu, v_Q, v_P0, iOf_i, v_P, v_sl, v_meth, v_par, v_ifS, v_set, v_setOw, v_ret, v_drop, v_for, v_lam, oCatL_le, oCatQ_le, oAdd_l, oAdd_t, oMul_l2, oMul_l3, oMul_l4, oMul_l5, Nat.reduceLeDiff, oItems_l, oItems_t, oItems_s, oItemsQ_i, oSl_l, oSl_t, oSl_sc, oTupOf_i, oLstOf_i, oSum_i, oAll_i, oAny_i, oMod_p, oDiv_p, oMul_L, oMul_R, oPow_6, oPow_12, oPow_18, oPow_20, oPow_36, oInt_i, oInt_b, oAbs_i, oLen_l, oLen_t, oLenQ_i, oIx_mu, at_0, at_1, at_2, at_3, at_4, at_5, ix5_0, ix5_1, ix5_2, ix5_3, ix5_4, Int.reduceLT, Int.reduceNeg, Int.reduceAdd, Int.reduceSub, Int.reduceMul, oAdd_i, oSub_i, oNeg_i, oLt_i, oLe_i, oGt_i, oGe_i, oMin_i, oMax_i, oEq_i, oNe_i, oEq_s, oNe_s, oIxQ_i, oIx_l, oIx_t, asB_b, asQ_l, asQ_t, v_var, var_fz, v_app, app_ow, v_ext, ext_ow, v_frzE, frs_ow, frs_fz, v_own, own_fl, own_ft, own_ow, own_sh, lp_nx, lp_ct, lp_bk, lp_rt, lp_exc, lp_bad, lp_ite, ag_some, ag_none, fl_nil, fl_cons, g_N, g_nil, g_cons, g_T, o_some, v_asg, v_try, try_exc, try_nx, try_rt, trE_rt, trE_nx, v_thkE, v_thkR, thk_rv, said_nx, said_rt, v_isE, isE_rv, v_wipeR, v_callL, callL_fn, lkL_some, v_store, may_ow, may_fz, may_t, sto_ow, sto_mu, ixO_s, List.getElem?_cons_succ, List.getElem?_cons_zero, List.set_cons_succ, List.set_cons_zero, startE, List.zipWith, List.replicate, List.length_cons, List.length_nil, List.cons_append, List.nil_append, setE, Nat.reduceSub, Nat.reduceAdd, if_true, if_false, ite_true, ite_false, Bool.not_true, Bool.not_false, Bool.false_eq_true,
           e_are_digits (th_six hl), show isSix (.str z) = true from c, e_parts_of mk]
    unfold good3
    by_cases c1 : (1 : Int) ≤ q
    · by_cases c2 : (q : Int) ≤ 12
      · simp (config := {implicitDefEqProofs := false}) only [b_ok, b_exc, b_bad, b_ite, l_some, l_none, of_ok, of_exc, of_bad, of_ite, sq_nx, sq_rt, sq_bk, sq_ct, sq_exc, sq_bad, sq_ite, fn_nx, fn_rt, fn_exc, fn_bad, fn_ite, v_mkF, v_seq, v_next, v_retN, v_brk, v_cont, v_raise, v_frz, v_bin, v_op1, v_c, v_nil, v_cons, v_consO, v_call, v_test, v_not, v_and, v_or, v_if, bol_b, v_andV, v_orV, v_notV, v_chain, v_lst, v_tup, szR_0, szR_1, szR_2, szR_3, szR_4, szR_5, szR_6, szR_7, szR_8, szR_9, szR_10, szR_11, szR_12, szR_13, szR_14, v_L, v_mu, v_Q, v_P0, iOf_i, v_P, v_sl, v_meth, v_par, v_ifS, v_set, v_setOw, v_ret, v_drop, v_for, v_lam, oCatL_le, oCatQ_le, oAdd_l, oAdd_t, oMul_l2, oMul_l3, oMul_l4, oMul_l5, Nat.reduceLeDiff, oItems_l, oItems_t, oItems_s, oItemsQ_i, oSl_l, oSl_t, oSl_sc, oTupOf_i, oLstOf_i, oSum_i, oAll_i, oAny_i, oMod_p, oDiv_p, oMul_L, oMul_R, oPow_6, oPow_12, oPow_18, oPow_20, oPow_36, oInt_i, oInt_b, oAbs_i, oLen_l, oLen_t, oLenQ_i, oIx_mu, at_0, at_1, at_2, at_3, at_4, at_5, ix5_0, ix5_1, ix5_2, ix5_3, ix5_4, Int.reduceLT, Int.reduceNeg, Int.reduceAdd, Int.reduceSub, Int.reduceMul, oAdd_i, oSub_i, oNeg_i, oLt_i, oLe_i, oGt_i, oGe_i, oMin_i, oMax_i, oEq_i, oNe_i, oEq_s, oNe_s, oIxQ_i, oIx_l, oIx_t, asB_b, asQ_l, asQ_t, v_var, var_fz, v_app, app_ow, v_ext, ext_ow, v_frzE, frs_ow, frs_fz, v_own, own_fl, own_ft, own_ow, own_sh, lp_nx, lp_ct, lp_bk, lp_rt, lp_exc, lp_bad, lp_ite, ag_some, ag_none, fl_nil, fl_cons, g_N, g_nil, g_cons, g_T, o_some, v_asg, v_try, try_exc, try_nx, try_rt, trE_rt, trE_nx, v_thkE, v_thkR, thk_rv, said_nx, said_rt, v_isE, isE_rv, v_wipeR, v_callL, callL_fn, lkL_some, v_store, may_ow, may_fz, may_t, sto_ow, sto_mu, ixO_s, List.getElem?_cons_succ, List.getElem?_cons_zero, List.set_cons_succ, List.set_cons_zero, startE, List.zipWith, List.replicate, List.length_cons, List.length_nil, List.cons_append, List.nil_append, setE, Nat.reduceSub, Nat.reduceAdd, if_true, if_false, ite_true, ite_false, Bool.not_true, Bool.not_false, Bool.false_eq_true,
               c1, c2, decide_true, e_month_length c1 c2, Bool.true_and]
        by_cases c3 : (1 : Int) ≤ p
        · simp (config := {implicitDefEqProofs := false}) only [b_ok, b_exc, b_bad, b_ite, l_some, l_none, of_ok, of_exc, of_bad, of_ite, sq_nx, sq_rt, sq_bk, sq_ct, sq_exc, sq_bad, sq_ite, fn_nx, fn_rt, fn_exc, fn_bad, fn_ite, v_mkF, v_seq, v_next, v_retN, v_brk, v_cont, v_raise, v_frz, v_bin, v_op1, v_c, v_nil, v_cons, v_consO, v_call, v_test, v_not, v_and, v_or, v_if, bol_b, v_andV, v_orV, v_notV, v_chain, v_lst, v_tup, szR_0, szR_1, szR_2, szR_3, szR_4, szR_5, szR_6, szR_7, szR_8, szR_9, szR_10, szR_11, szR_12, szR_13, szR_14, v_L, v_mu, v_Q, v_P0, iOf_i, v_P, v_sl, v_meth, v_par, v_ifS, v_set, v_setOw, v_ret, v_drop, v_for, v_lam, oCatL_le, oCatQ_le, oAdd_l, oAdd_t, oMul_l2, oMul_l3, oMul_l4, oMul_l5, Nat.reduceLeDiff, oItems_l, oItems_t, oItems_s, oItemsQ_i, oSl_l, oSl_t, oSl_sc, oTupOf_i, oLstOf_i, oSum_i, oAll_i, oAny_i, oMod_p, oDiv_p, oMul_L, oMul_R, oPow_6, oPow_12, oPow_18, oPow_20, oPow_36, oInt_i, oInt_b, oAbs_i, oLen_l, oLen_t, oLenQ_i, oIx_mu, at_0, at_1, at_2, at_3, at_4, at_5, ix5_0, ix5_1, ix5_2, ix5_3, ix5_4, Int.reduceLT, Int.reduceNeg, Int.reduceAdd, Int.reduceSub, Int.reduceMul, oAdd_i, oSub_i, oNeg_i, oLt_i, oLe_i, oGt_i, oGe_i, oMin_i, oMax_i, oEq_i, oNe_i, oEq_s, oNe_s, oIxQ_i, oIx_l, oIx_t, asB_b, asQ_l, asQ_t, v_var, var_fz, v_app, app_ow, v_ext, ext_ow, v_frzE, frs_ow, frs_fz, v_own, own_fl, own_ft, own_ow, own_sh, lp_nx, lp_ct, lp_bk, lp_rt, lp_exc, lp_bad, lp_ite, ag_some, ag_none, fl_nil, fl_cons, g_N, g_nil, g_cons, g_T, o_some, v_asg, v_try, try_exc, try_nx, try_rt, trE_rt, trE_nx, v_thkE, v_thkR, thk_rv, said_nx, said_rt, v_isE, isE_rv, v_wipeR, v_callL, callL_fn, lkL_some, v_store, may_ow, may_fz, may_t, sto_ow, sto_mu, ixO_s, List.getElem?_cons_succ, List.getElem?_cons_zero, List.set_cons_succ, List.set_cons_zero, startE, List.zipWith, List.replicate, List.length_cons, List.length_nil, List.cons_append, List.nil_append, setE, Nat.reduceSub, Nat.reduceAdd, if_true, if_false, ite_true, ite_false, Bool.not_true, Bool.not_false, Bool.false_eq_true,
                 c3, decide_true, Bool.true_and]
        · simp (config := {implicitDefEqProofs := false}) only [b_ok, b_exc, b_bad, b_ite, l_some, l_none, of_ok, of_exc, of_bad, of_ite, sq_nx, sq_rt, sq_bk, sq_ct, sq_exc, sq_bad, sq_ite, fn_nx, fn_rt, fn_exc, fn_bad, fn_ite, v_mkF, v_seq, v_next, v_retN, v_brk, v_cont, v_raise, v_frz, v_bin, v_op1, v_c, v_nil, v_cons, v_consO, v_call, v_test, v_not, v_and, v_or, v_if, bol_b, v_andV, v_orV, v_notV, v_chain, v_lst, v_tup, szR_0, szR_1, szR_2, szR_3, szR_4, szR_5, szR_6, szR_7, szR_8, szR_9, szR_10, szR_11, szR_12, szR_13, szR_14, v_L, v_mu, v_Q, v_P0, iOf_i, v_P, v_sl, v_meth, v_par, v_ifS, v_set, v_setOw, v_ret, v_drop, v_for, v_lam, oCatL_le, oCatQ_le, oAdd_l, oAdd_t, oMul_l2, oMul_l3, oMul_l4, oMul_l5, Nat.reduceLeDiff, oItems_l, oItems_t, oItems_s, oItemsQ_i, oSl_l, oSl_t, oSl_sc, oTupOf_i, oLstOf_i, oSum_i, oAll_i, oAny_i, oMod_p, oDiv_p, oMul_L, oMul_R, oPow_6, oPow_12, oPow_18, oPow_20, oPow_36, oInt_i, oInt_b, oAbs_i, oLen_l, oLen_t, oLenQ_i, oIx_mu, at_0, at_1, at_2, at_3, at_4, at_5, ix5_0, ix5_1, ix5_2, ix5_3, ix5_4, Int.reduceLT, Int.reduceNeg, Int.reduceAdd, Int.reduceSub, Int.reduceMul, oAdd_i, oSub_i, oNeg_i, oLt_i, oLe_i, oGt_i, oGe_i, oMin_i, oMax_i, oEq_i, oNe_i, oEq_s, oNe_s, oIxQ_i, oIx_l, oIx_t, asB_b, asQ_l, asQ_t, v_var, var_fz, v_app, app_ow, v_ext, ext_ow, v_frzE, frs_ow, frs_fz, v_own, own_fl, own_ft, own_ow, own_sh, lp_nx, lp_ct, lp_bk, lp_rt, lp_exc, lp_bad, lp_ite, ag_some, ag_none, fl_nil, fl_cons, g_N, g_nil, g_cons, g_T, o_some, v_asg, v_try, try_exc, try_nx, try_rt, trE_rt, trE_nx, v_thkE, v_thkR, thk_rv, said_nx, said_rt, v_isE, isE_rv, v_wipeR, v_callL, callL_fn, lkL_some, v_store, may_ow, may_fz, may_t, sto_ow, sto_mu, ixO_s, List.getElem?_cons_succ, List.getElem?_cons_zero, List.set_cons_succ, List.set_cons_zero, startE, List.zipWith, List.replicate, List.length_cons, List.length_nil, List.cons_append, List.nil_append, setE, Nat.reduceSub, Nat.reduceAdd, if_true, if_false, ite_true, ite_false, Bool.not_true, Bool.not_false, Bool.false_eq_true,
                 c3, decide_false, Bool.false_and]
      · simp (config := {implicitDefEqProofs := false}) only [b_ok, b_exc, b_bad, b_ite, l_some, l_none, of_ok, of_exc, of_bad, of_ite, sq_nx, sq_rt, sq_bk, sq_ct, sq_exc, sq_bad, sq_ite, fn_nx, fn_rt, fn_exc, fn_bad, fn_ite, v_mkF, v_seq, v_next, v_retN, v_brk, v_cont, v_raise, v_frz, v_bin, v_op1, v_c, v_nil, v_cons, v_consO, v_call, v_test, v_not, v_and, v_or, v_if, bol_b, v_andV, v_orV, v_notV, v_chain, v_lst, v_tup, szR_0, szR_1, szR_2, szR_3, szR_4, szR_5, szR_6, szR_7, szR_8, szR_9, szR_10, szR_11, szR_12, szR_13, szR_14, v_L, v_mu, v_Q, v_P0, iOf_i, v_P, v_sl, v_meth, v_par, v_ifS, v_set, v_setOw, v_ret, v_drop, v_for, v_lam, oCatL_le, oCatQ_le, oAdd_l, oAdd_t, oMul_l2, oMul_l3, oMul_l4, oMul_l5, Nat.reduceLeDiff, oItems_l, oItems_t, oItems_s, oItemsQ_i, oSl_l, oSl_t, oSl_sc, oTupOf_i, oLstOf_i, oSum_i, oAll_i, oAny_i, oMod_p, oDiv_p, oMul_L, oMul_R, oPow_6, oPow_12, oPow_18, oPow_20, oPow_36, oInt_i, oInt_b, oAbs_i, oLen_l, oLen_t, oLenQ_i, oIx_mu, at_0, at_1, at_2, at_3, at_4, at_5, ix5_0, ix5_1, ix5_2, ix5_3, ix5_4, Int.reduceLT, Int.reduceNeg, Int.reduceAdd, Int.reduceSub, Int.reduceMul, oAdd_i, oSub_i, oNeg_i, oLt_i, oLe_i, oGt_i, oGe_i, oMin_i, oMax_i, oEq_i, oNe_i, oEq_s, oNe_s, oIxQ_i, oIx_l, oIx_t, asB_b, asQ_l, asQ_t, v_var, var_fz, v_app, app_ow, v_ext, ext_ow, v_frzE, frs_ow, frs_fz, v_own, own_fl, own_ft, own_ow, own_sh, lp_nx, lp_ct, lp_bk, lp_rt, lp_exc, lp_bad, lp_ite, ag_some, ag_none, fl_nil, fl_cons, g_N, g_nil, g_cons, g_T, o_some, v_asg, v_try, try_exc, try_nx, try_rt, trE_rt, trE_nx, v_thkE, v_thkR, thk_rv, said_nx, said_rt, v_isE, isE_rv, v_wipeR, v_callL, callL_fn, lkL_some, v_store, may_ow, may_fz, may_t, sto_ow, sto_mu, ixO_s, List.getElem?_cons_succ, List.getElem?_cons_zero, List.set_cons_succ, List.set_cons_zero, startE, List.zipWith, List.replicate, List.length_cons, List.length_nil, List.cons_append, List.nil_append, setE, Nat.reduceSub, Nat.reduceAdd, if_true, if_false, ite_true, ite_false, Bool.not_true, Bool.not_false, Bool.false_eq_true,
               c1, c2, decide_true, decide_false, Bool.false_and, Bool.true_and]
    · simp (config := {implicitDefEqProofs := false}) only [b_ok, b_exc, b_bad, b_ite, l_some, l_none, of_ok, of_exc, of_bad, of_ite, sq_nx, sq_rt, sq_bk, sq_ct, sq_exc, sq_bad, sq_ite, fn_nx, fn_rt, fn_exc, fn_bad, fn_ite, v_mkF, v_seq, v_next, v_retN, v_brk, v_cont, v_raise, v_frz, v_bin, v_op1, v_c, v_nil, v_cons, v_consO, v_call, v_test, v_not, v_and, v_or, v_if, bol_b, v_andV, v_orV, v_notV, v_chain, v_lst, v_tup, szR_0, szR_1, szR_2, szR_3, szR_4, szR_5, szR_6, szR_7, szR_8, szR_9, szR_10, szR_11, szR_12, szR_13, szR_14, v_L, v_mu, v_Q, v_P0, iOf_i, v_P, v_sl, v_meth, v_par, v_ifS, v_set, v_setOw, v_ret, v_drop, v_for, v_lam, oCatL_le, oCatQ_le, oAdd_l, oAdd_t, oMul_l2, oMul_l3, oMul_l4, oMul_l5, Nat.reduceLeDiff, oItems_l, oItems_t, oItems_s, oItemsQ_i, oSl_l, oSl_t, oSl_sc, oTupOf_i, oLstOf_i, oSum_i, oAll_i, oAny_i, oMod_p, oDiv_p, oMul_L, oMul_R, oPow_6, oPow_12, oPow_18, oPow_20, oPow_36, oInt_i, oInt_b, oAbs_i, oLen_l, oLen_t, oLenQ_i, oIx_mu, at_0, at_1, at_2, at_3, at_4, at_5, ix5_0, ix5_1, ix5_2, ix5_3, ix5_4, Int.reduceLT, Int.reduceNeg, Int.reduceAdd, Int.reduceSub, Int.reduceMul, oAdd_i, oSub_i, oNeg_i, oLt_i, oLe_i, oGt_i, oGe_i, oMin_i, oMax_i, oEq_i, oNe_i, oEq_s, oNe_s, oIxQ_i, oIx_l, oIx_t, asB_b, asQ_l, asQ_t, v_var, var_fz, v_app, app_ow, v_ext, ext_ow, v_frzE, frs_ow, frs_fz, v_own, own_fl, own_ft, own_ow, own_sh, lp_nx, lp_ct, lp_bk, lp_rt, lp_exc, lp_bad, lp_ite, ag_some, ag_none, fl_nil, fl_cons, g_N, g_nil, g_cons, g_T, o_some, v_asg, v_try, try_exc, try_nx, try_rt, trE_rt, trE_nx, v_thkE, v_thkR, thk_rv, said_nx, said_rt, v_isE, isE_rv, v_wipeR, v_callL, callL_fn, lkL_some, v_store, may_ow, may_fz, may_t, sto_ow, sto_mu, ixO_s, List.getElem?_cons_succ, List.getElem?_cons_zero, List.set_cons_succ, List.set_cons_zero, startE, List.zipWith, List.replicate, List.length_cons, List.length_nil, List.cons_append, List.nil_append, setE, Nat.reduceSub, Nat.reduceAdd, if_true, if_false, ite_true, ite_false, Bool.not_true, Bool.not_false, Bool.false_eq_true,
             c1, decide_false, Bool.false_and]
  · have hq := mk.q1
    have hin : ∀ s, oIn (.int (q : Int)) (.tuple [.int 4, .int 6, .int 9, .int 11]) s = some (.bool (decide (q = 4 ∨ q = 6 ∨ q = 9 ∨ q = 11))) := fun s => by
      unfold oIn
      rw [in_months ⟨q, hq⟩]
      rfl
    have days : ∃ d : Int, (∀ (k : Int → R D), True) ∧ d = ml q r := ⟨_, fun _ => trivial, rfl⟩
    unfold mf__law_is_mark m__law_is_mark
    by_cases h2 : q = 2
    · have e2 : ((q : Int) == 2) = true := by rw [h2]; rfl
      have e3 : (decide (q = 4 ∨ q = 6 ∨ q = 9 ∨ q = 11)) = false := by rw [h2]; decide
      by_cases h : (r : Int) % 4 = 0
      · have hb : ((r : Int) % 4 == 0) = true := by simpa using h
        have hm : ml q r = 29 := by unfold ml; rw [if_pos (by omega), if_pos h]
        simp (config := {implicitDefEqProofs := false}) only [b_ok, b_exc, b_bad, b_ite, l_some, l_none, of_ok, of_exc, of_bad, of_ite, sq_nx, sq_rt, sq_bk, sq_ct, sq_exc, sq_bad, sq_ite, fn_nx, fn_rt, fn_exc, fn_bad, fn_ite, v_mkF, v_seq, v_next, v_retN, v_brk, v_cont, v_raise, v_frz, v_bin, v_op1, v_c, v_nil, v_cons, v_consO, v_call, v_test, v_not, v_and, v_or, v_if, bol_b, v_andV, v_orV, v_notV, v_chain, v_lst, v_tup, szR_0, szR_1, szR_2, szR_3, szR_4, szR_5, szR_6, szR_7, szR_8, szR_9, szR_10, szR_11, szR_12, szR_13, szR_14, v_L, v_mu, v_Q, v_P0, iOf_i, v_P, v_sl, v_meth, v_par, v_ifS, v_set, v_setOw, v_ret, v_drop, v_for, v_lam, oCatL_le, oCatQ_le, oAdd_l, oAdd_t, oMul_l2, oMul_l3, oMul_l4, oMul_l5, Nat.reduceLeDiff, oItems_l, oItems_t, oItems_s, oItemsQ_i, oSl_l, oSl_t, oSl_sc, oTupOf_i, oLstOf_i, oSum_i, oAll_i, oAny_i, oMod_p, oDiv_p, oMul_L, oMul_R, oPow_6, oPow_12, oPow_18, oPow_20, oPow_36, oInt_i, oInt_b, oAbs_i, oLen_l, oLen_t, oLenQ_i, oIx_mu, at_0, at_1, at_2, at_3, at_4, at_5, ix5_0, ix5_1, ix5_2, ix5_3, ix5_4, Int.reduceLT, Int.reduceNeg, Int.reduceAdd, Int.reduceSub, Int.reduceMul, oAdd_i, oSub_i, oNeg_i, oLt_i, oLe_i, oGt_i, oGe_i, oMin_i, oMax_i, oEq_i, oNe_i, oEq_s, oNe_s, oIxQ_i, oIx_l, oIx_t, asB_b, asQ_l, asQ_t, v_var, var_fz, v_app, app_ow, v_ext, ext_ow, v_frzE, frs_ow, frs_fz, v_own, own_fl, own_ft, own_ow, own_sh, lp_nx, lp_ct, lp_bk, lp_rt, lp_exc, lp_bad, lp_ite, ag_some, ag_none, fl_nil, fl_cons, g_N, g_nil, g_cons, g_T, o_some, v_asg, v_try, try_exc, try_nx, try_rt, trE_rt, trE_nx, v_thkE, v_thkR, thk_rv, said_nx, said_rt, v_isE, isE_rv, v_wipeR, v_callL, callL_fn, lkL_some, v_store, may_ow, may_fz, may_t, sto_ow, sto_mu, ixO_s, List.getElem?_cons_succ, List.getElem?_cons_zero, List.set_cons_succ, List.set_cons_zero, startE, List.zipWith, List.replicate, List.length_cons, List.length_nil, List.cons_append, List.nil_append, setE, Nat.reduceSub, Nat.reduceAdd, if_true, if_false, ite_true, ite_false, Bool.not_true, Bool.not_false, Bool.false_eq_true,
               oSl_s (z := z) (show z.length ≤ 1000000 by omega), (mk_sl mk s).1, (mk_sl mk s).2.1, (mk_sl mk s).2.2, e2, hb, hin, e3]
        unfold good3
        rw [hm]
        by_cases c1 : (1 : Int) ≤ q
        · by_cases c2 : (q : Int) ≤ 12
          · simp (config := {implicitDefEqProofs := false}) only [b_ok, b_exc, b_bad, b_ite, l_some, l_none, of_ok, of_exc, of_bad, of_ite, sq_nx, sq_rt, sq_bk, sq_ct, sq_exc, sq_bad, sq_ite, fn_nx, fn_rt, fn_exc, fn_bad, fn_ite, v_mkF, v_seq, v_next, v_retN, v_brk, v_cont, v_raise, v_frz, v_bin, v_op1, v_c, v_nil, v_cons, v_consO, v_call, v_test, v_not, v_and, v_or, v_if, bol_b, v_andV, v_orV, v_notV, v_chain, v_lst, v_tup, szR_0, szR_1, szR_2, szR_3, szR_4, szR_5, szR_6, szR_7, szR_8, szR_9, szR_10, szR_11, szR_12, szR_13, szR_14, v_L, v_mu, v_Q, v_P0, iOf_i, v_P, v_sl, v_meth, v_par, v_ifS, v_set, v_setOw, v_ret, v_drop, v_for, v_lam, oCatL_le, oCatQ_le, oAdd_l, oAdd_t, oMul_l2, oMul_l3, oMul_l4, oMul_l5, Nat.reduceLeDiff, oItems_l, oItems_t, oItems_s, oItemsQ_i, oSl_l, oSl_t, oSl_sc, oTupOf_i, oLstOf_i, oSum_i, oAll_i, oAny_i, oMod_p, oDiv_p, oMul_L, oMul_R, oPow_6, oPow_12, oPow_18, oPow_20, oPow_36, oInt_i, oInt_b, oAbs_i, oLen_l, oLen_t, oLenQ_i, oIx_mu, at_0, at_1, at_2, at_3, at_4, at_5, ix5_0, ix5_1, ix5_2, ix5_3, ix5_4, Int.reduceLT, Int.reduceNeg, Int.reduceAdd, Int.reduceSub, Int.reduceMul, oAdd_i, oSub_i, oNeg_i, oLt_i, oLe_i, oGt_i, oGe_i, oMin_i, oMax_i, oEq_i, oNe_i, oEq_s, oNe_s, oIxQ_i, oIx_l, oIx_t, asB_b, asQ_l, asQ_t, v_var, var_fz, v_app, app_ow, v_ext, ext_ow, v_frzE, frs_ow, frs_fz, v_own, own_fl, own_ft, own_ow, own_sh, lp_nx, lp_ct, lp_bk, lp_rt, lp_exc, lp_bad, lp_ite, ag_some, ag_none, fl_nil, fl_cons, g_N, g_nil, g_cons, g_T, o_some, v_asg, v_try, try_exc, try_nx, try_rt, trE_rt, trE_nx, v_thkE, v_thkR, thk_rv, said_nx, said_rt, v_isE, isE_rv, v_wipeR, v_callL, callL_fn, lkL_some, v_store, may_ow, may_fz, may_t, sto_ow, sto_mu, ixO_s, List.getElem?_cons_succ, List.getElem?_cons_zero, List.set_cons_succ, List.set_cons_zero, startE, List.zipWith, List.replicate, List.length_cons, List.length_nil, List.cons_append, List.nil_append, setE, Nat.reduceSub, Nat.reduceAdd, if_true, if_false, ite_true, ite_false, Bool.not_true, Bool.not_false, Bool.false_eq_true,
                   c1, c2, decide_true, Bool.true_and]
            by_cases c3 : (1 : Int) ≤ p
            · simp (config := {implicitDefEqProofs := false}) only [b_ok, b_exc, b_bad, b_ite, l_some, l_none, of_ok, of_exc, of_bad, of_ite, sq_nx, sq_rt, sq_bk, sq_ct, sq_exc, sq_bad, sq_ite, fn_nx, fn_rt, fn_exc, fn_bad, fn_ite, v_mkF, v_seq, v_next, v_retN, v_brk, v_cont, v_raise, v_frz, v_bin, v_op1, v_c, v_nil, v_cons, v_consO, v_call, v_test, v_not, v_and, v_or, v_if, bol_b, v_andV, v_orV, v_notV, v_chain, v_lst, v_tup, szR_0, szR_1, szR_2, szR_3, szR_4, szR_5, szR_6, szR_7, szR_8, szR_9, szR_10, szR_11, szR_12, szR_13, szR_14, v_L, v_mu, v_Q, v_P0, iOf_i, v_P, v_sl, v_meth, v_par, v_ifS, v_set, v_setOw, v_ret, v_drop, v_for, v_lam, oCatL_le, oCatQ_le, oAdd_l, oAdd_t, oMul_l2, oMul_l3, oMul_l4, oMul_l5, Nat.reduceLeDiff, oItems_l, oItems_t, oItems_s, oItemsQ_i, oSl_l, oSl_t, oSl_sc, oTupOf_i, oLstOf_i, oSum_i, oAll_i, oAny_i, oMod_p, oDiv_p, oMul_L, oMul_R, oPow_6, oPow_12, oPow_18, oPow_20, oPow_36, oInt_i, oInt_b, oAbs_i, oLen_l, oLen_t, oLenQ_i, oIx_mu, at_0, at_1, at_2, at_3, at_4, at_5, ix5_0, ix5_1, ix5_2, ix5_3, ix5_4, Int.reduceLT, Int.reduceNeg, Int.reduceAdd, Int.reduceSub, Int.reduceMul, oAdd_i, oSub_i, oNeg_i, oLt_i, oLe_i, oGt_i, oGe_i, oMin_i, oMax_i, oEq_i, oNe_i, oEq_s, oNe_s, oIxQ_i, oIx_l, oIx_t, asB_b, asQ_l, asQ_t, v_var, var_fz, v_app, app_ow, v_ext, ext_ow, v_frzE, frs_ow, frs_fz, v_own, own_fl, own_ft, own_ow, own_sh, lp_nx, lp_ct, lp_bk, lp_rt, lp_exc, lp_bad, lp_ite, ag_some, ag_none, fl_nil, fl_cons, g_N, g_nil, g_cons, g_T, o_some, v_asg, v_try, try_exc, try_nx, try_rt, trE_rt, trE_nx, v_thkE, v_thkR, thk_rv, said_nx, said_rt, v_isE, isE_rv, v_wipeR, v_callL, callL_fn, lkL_some, v_store, may_ow, may_fz, may_t, sto_ow, sto_mu, ixO_s, List.getElem?_cons_succ, List.getElem?_cons_zero, List.set_cons_succ, List.set_cons_zero, startE, List.zipWith, List.replicate, List.length_cons, List.length_nil, List.cons_append, List.nil_append, setE, Nat.reduceSub, Nat.reduceAdd, if_true, if_false, ite_true, ite_false, Bool.not_true, Bool.not_false, Bool.false_eq_true,
                     c3, decide_true, Bool.true_and]
            · simp (config := {implicitDefEqProofs := false}) only [b_ok, b_exc, b_bad, b_ite, l_some, l_none, of_ok, of_exc, of_bad, of_ite, sq_nx, sq_rt, sq_bk, sq_ct, sq_exc, sq_bad, sq_ite, fn_nx, fn_rt, fn_exc, fn_bad, fn_ite, v_mkF, v_seq, v_next, v_retN, v_brk, v_cont, v_raise, v_frz, v_bin, v_op1, v_c, v_nil, v_cons, v_consO, v_call, v_test, v_not, v_and, v_or, v_if, bol_b, v_andV, v_orV, v_notV, v_chain, v_lst, v_tup, szR_0, szR_1, szR_2, szR_3, szR_4, szR_5, szR_6, szR_7, szR_8, szR_9, szR_10, szR_11, szR_12, szR_13, szR_14, v_L, v_mu, v_Q, v_P0, iOf_i, v_P, v_sl, v_meth, v_par, v_ifS, v_set, v_setOw, v_ret, v_drop, v_for, v_lam, oCatL_le, oCatQ_le, oAdd_l, oAdd_t, oMul_l2, oMul_l3, oMul_l4, oMul_l5, Nat.reduceLeDiff, oItems_l, oItems_t, oItems_s, oItemsQ_i, oSl_l, oSl_t, oSl_sc, oTupOf_i, oLstOf_i, oSum_i, oAll_i, oAny_i, oMod_p, oDiv_p, oMul_L, oMul_R, oPow_6, oPow_12, oPow_18, oPow_20, oPow_36, oInt_i, oInt_b, oAbs_i, oLen_l, oLen_t, oLenQ_i, oIx_mu, at_0, at_1, at_2, at_3, at_4, at_5, ix5_0, ix5_1, ix5_2, ix5_3, ix5_4, Int.reduceLT, Int.reduceNeg, Int.reduceAdd, Int.reduceSub, Int.reduceMul, oAdd_i, oSub_i, oNeg_i, oLt_i, oLe_i, oGt_i, oGe_i, oMin_i, oMax_i, oEq_i, oNe_i, oEq_s, oNe_s, oIxQ_i, oIx_l, oIx_t, asB_b, asQ_l, asQ_t, v_var, var_fz, v_app, app_ow, v_ext, ext_ow, v_frzE, frs_ow, frs_fz, v_own, own_fl, own_ft, own_ow, own_sh, lp_nx, lp_ct, lp_bk, lp_rt, lp_exc, lp_bad, lp_ite, ag_some, ag_none, fl_nil, fl_cons, g_N, g_nil, g_cons, g_T, o_some, v_asg, v_try, try_exc, try_nx, try_rt, trE_rt, trE_nx, v_thkE, v_thkR, thk_rv, said_nx, said_rt, v_isE, isE_rv, v_wipeR, v_callL, callL_fn, lkL_some, v_store, may_ow, may_fz, may_t, sto_ow, sto_mu, ixO_s, List.getElem?_cons_succ, List.getElem?_cons_zero, List.set_cons_succ, List.set_cons_zero, startE, List.zipWith, List.replicate, List.length_cons, List.length_nil, List.cons_append, List.nil_append, setE, Nat.reduceSub, Nat.reduceAdd, if_true, if_false, ite_true, ite_false, Bool.not_true, Bool.not_false, Bool.false_eq_true,
                     c3, decide_false, Bool.false_and]
          · simp (config := {implicitDefEqProofs := false}) only [b_ok, b_exc, b_bad, b_ite, l_some, l_none, of_ok, of_exc, of_bad, of_ite, sq_nx, sq_rt, sq_bk, sq_ct, sq_exc, sq_bad, sq_ite, fn_nx, fn_rt, fn_exc, fn_bad, fn_ite, v_mkF, v_seq, v_next, v_retN, v_brk, v_cont, v_raise, v_frz, v_bin, v_op1, v_c, v_nil, v_cons, v_consO, v_call, v_test, v_not, v_and, v_or, v_if, bol_b, v_andV, v_orV, v_notV, v_chain, v_lst, v_tup, szR_0, szR_1, szR_2, szR_3, szR_4, szR_5, szR_6, szR_7, szR_8, szR_9, szR_10, szR_11, szR_12, szR_13, szR_14, v_L, v_mu, v_Q, v_P0, iOf_i, v_P, v_sl, v_meth, v_par, v_ifS, v_set, v_setOw, v_ret, v_drop, v_for, v_lam, oCatL_le, oCatQ_le, oAdd_l, oAdd_t, oMul_l2, oMul_l3, oMul_l4, oMul_l5, Nat.reduceLeDiff, oItems_l, oItems_t, oItems_s, oItemsQ_i, oSl_l, oSl_t, oSl_sc, oTupOf_i, oLstOf_i, oSum_i, oAll_i, oAny_i, oMod_p, oDiv_p, oMul_L, oMul_R, oPow_6, oPow_12, oPow_18, oPow_20, oPow_36, oInt_i, oInt_b, oAbs_i, oLen_l, oLen_t, oLenQ_i, oIx_mu, at_0, at_1, at_2, at_3, at_4, at_5, ix5_0, ix5_1, ix5_2, ix5_3, ix5_4, Int.reduceLT, Int.reduceNeg, Int.reduceAdd, Int.reduceSub, Int.reduceMul, oAdd_i, oSub_i, oNeg_i, oLt_i, oLe_i, oGt_i, oGe_i, oMin_i, oMax_i, oEq_i, oNe_i, oEq_s, oNe_s, oIxQ_i, oIx_l, oIx_t, asB_b, asQ_l, asQ_t, v_var, var_fz, v_app, app_ow, v_ext, ext_ow, v_frzE, frs_ow, frs_fz, v_own, own_fl, own_ft, own_ow, own_sh, lp_nx, lp_ct, lp_bk, lp_rt, lp_exc, lp_bad, lp_ite, ag_some, ag_none, fl_nil, fl_cons, g_N, g_nil, g_cons, g_T, o_some, v_asg, v_try, try_exc, try_nx, try_rt, trE_rt, trE_nx, v_thkE, v_thkR, thk_rv, said_nx, said_rt, v_isE, isE_rv, v_wipeR, v_callL, callL_fn, lkL_some, v_store, may_ow, may_fz, may_t, sto_ow, sto_mu, ixO_s, List.getElem?_cons_succ, List.getElem?_cons_zero, List.set_cons_succ, List.set_cons_zero, startE, List.zipWith, List.replicate, List.length_cons, List.length_nil, List.cons_append, List.nil_append, setE, Nat.reduceSub, Nat.reduceAdd, if_true, if_false, ite_true, ite_false, Bool.not_true, Bool.not_false, Bool.false_eq_true,
                   c1, c2, decide_true, decide_false, Bool.false_and, Bool.true_and]
        · simp (config := {implicitDefEqProofs := false}) only [b_ok, b_exc, b_bad, b_ite, l_some, l_none, of_ok, of_exc, of_bad, of_ite, sq_nx, sq_rt, sq_bk, sq_ct, sq_exc, sq_bad, sq_ite, fn_nx, fn_rt, fn_exc, fn_bad, fn_ite, v_mkF, v_seq, v_next, v_retN, v_brk, v_cont, v_raise, v_frz, v_bin, v_op1, v_c, v_nil, v_cons, v_consO, v_call, v_test, v_not, v_and, v_or, v_if, bol_b, v_andV, v_orV, v_notV, v_chain, v_lst, v_tup, szR_0, szR_1, szR_2, szR_3, szR_4, szR_5, szR_6, szR_7, szR_8, szR_9, szR_10, szR_11, szR_12, szR_13, szR_14, v_L, v_mu, v_Q, v_P0, iOf_i, v_P, v_sl, v_meth, v_par, v_ifS, v_set, v_setOw, v_ret, v_drop, v_for, v_lam, oCatL_le, oCatQ_le, oAdd_l, oAdd_t, oMul_l2, oMul_l3, oMul_l4, oMul_l5, Nat.reduceLeDiff, oItems_l, oItems_t, oItems_s, oItemsQ_i, oSl_l, oSl_t, oSl_sc, oTupOf_i, oLstOf_i, oSum_i, oAll_i, oAny_i, oMod_p, oDiv_p, oMul_L, oMul_R, oPow_6, oPow_12, oPow_18, oPow_20, oPow_36, oInt_i, oInt_b, oAbs_i, oLen_l, oLen_t, oLenQ_i, oIx_mu, at_0, at_1, at_2, at_3, at_4, at_5, ix5_0, ix5_1, ix5_2, ix5_3, ix5_4, Int.reduceLT, Int.reduceNeg, Int.reduceAdd, Int.reduceSub, Int.reduceMul, oAdd_i, oSub_i, oNeg_i, oLt_i, oLe_i, oGt_i, oGe_i, oMin_i, oMax_i, oEq_i, oNe_i, oEq_s, oNe_s, oIxQ_i, oIx_l, oIx_t, asB_b, asQ_l, asQ_t, v_var, var_fz, v_app, app_ow, v_ext, ext_ow, v_frzE, frs_ow, frs_fz, v_own, own_fl, own_ft, own_ow, own_sh, lp_nx, lp_ct, lp_bk, lp_rt, lp_exc, lp_bad, lp_ite, ag_some, ag_none, fl_nil, fl_cons, g_N, g_nil, g_cons, g_T, o_some, v_asg, v_try, try_exc, try_nx, try_rt, trE_rt, trE_nx, v_thkE, v_thkR, thk_rv, said_nx, said_rt, v_isE, isE_rv, v_wipeR, v_callL, callL_fn, lkL_some, v_store, may_ow, may_fz, may_t, sto_ow, sto_mu, ixO_s, List.getElem?_cons_succ, List.getElem?_cons_zero, List.set_cons_succ, List.set_cons_zero, startE, List.zipWith, List.replicate, List.length_cons, List.length_nil, List.cons_append, List.nil_append, setE, Nat.reduceSub, Nat.reduceAdd, if_true, if_false, ite_true, ite_false, Bool.not_true, Bool.not_false, Bool.false_eq_true,
                 c1, decide_false, Bool.false_and]
      · have hb : ((r : Int) % 4 == 0) = false := by simpa using h
        have hm : ml q r = 28 := by unfold ml; rw [if_pos (by omega), if_neg h]
        simp (config := {implicitDefEqProofs := false}) only [b_ok, b_exc, b_bad, b_ite, l_some, l_none, of_ok, of_exc, of_bad, of_ite, sq_nx, sq_rt, sq_bk, sq_ct, sq_exc, sq_bad, sq_ite, fn_nx, fn_rt, fn_exc, fn_bad, fn_ite, v_mkF, v_seq, v_next, v_retN, v_brk, v_cont, v_raise, v_frz, v_bin, v_op1, v_c, v_nil, v_cons, v_consO, v_call, v_test, v_not, v_and, v_or, v_if, bol_b, v_andV, v_orV, v_notV, v_chain, v_lst, v_tup, szR_0, szR_1, szR_2, szR_3, szR_4, szR_5, szR_6, szR_7, szR_8, szR_9, szR_10, szR_11, szR_12, szR_13, szR_14, v_L, v_mu, v_Q, v_P0, iOf_i, v_P, v_sl, v_meth, v_par, v_ifS, v_set, v_setOw, v_ret, v_drop, v_for, v_lam, oCatL_le, oCatQ_le, oAdd_l, oAdd_t, oMul_l2, oMul_l3, oMul_l4, oMul_l5, Nat.reduceLeDiff, oItems_l, oItems_t, oItems_s, oItemsQ_i, oSl_l, oSl_t, oSl_sc, oTupOf_i, oLstOf_i, oSum_i, oAll_i, oAny_i, oMod_p, oDiv_p, oMul_L, oMul_R, oPow_6, oPow_12, oPow_18, oPow_20, oPow_36, oInt_i, oInt_b, oAbs_i, oLen_l, oLen_t, oLenQ_i, oIx_mu, at_0, at_1, at_2, at_3, at_4, at_5, ix5_0, ix5_1, ix5_2, ix5_3, ix5_4, Int.reduceLT, Int.reduceNeg, Int.reduceAdd, Int.reduceSub, Int.reduceMul, oAdd_i, oSub_i, oNeg_i, oLt_i, oLe_i, oGt_i, oGe_i, oMin_i, oMax_i, oEq_i, oNe_i, oEq_s, oNe_s, oIxQ_i, oIx_l, oIx_t, asB_b, asQ_l, asQ_t, v_var, var_fz, v_app, app_ow, v_ext, ext_ow, v_frzE, frs_ow, frs_fz, v_own, own_fl, own_ft, own_ow, own_sh, lp_nx, lp_ct, lp_bk, lp_rt, lp_exc, lp_bad, lp_ite, ag_some, ag_none, fl_nil, fl_cons, g_N, g_nil, g_cons, g_T, o_some, v_asg, v_try, try_exc, try_nx, try_rt, trE_rt, trE_nx, v_thkE, v_thkR, thk_rv, said_nx, said_rt, v_isE, isE_rv, v_wipeR, v_callL, callL_fn, lkL_some, v_store, may_ow, may_fz, may_t, sto_ow, sto_mu, ixO_s, List.getElem?_cons_succ, List.getElem?_cons_zero, List.set_cons_succ, List.set_cons_zero, startE, List.zipWith, List.replicate, List.length_cons, List.length_nil, List.cons_append, List.nil_append, setE, Nat.reduceSub, Nat.reduceAdd, if_true, if_false, ite_true, ite_false, Bool.not_true, Bool.not_false, Bool.false_eq_true,
               oSl_s (z := z) (show z.length ≤ 1000000 by omega), (mk_sl mk s).1, (mk_sl mk s).2.1, (mk_sl mk s).2.2, e2, hb, hin, e3]
        unfold good3
        rw [hm]
        by_cases c1 : (1 : Int) ≤ q
        · by_cases c2 : (q : Int) ≤ 12
          · simp (config := {implicitDefEqProofs := false}) only [b_ok, b_exc, b_bad, b_ite, l_some, l_none, of_ok, of_exc, of_bad, of_ite, sq_nx, sq_rt, sq_bk, sq_ct, sq_exc, sq_bad, sq_ite, fn_nx, fn_rt, fn_exc, fn_bad, fn_ite, v_mkF, v_seq, v_next, v_retN, v_brk, v_cont, v_raise, v_frz, v_bin, v_op1, v_c, v_nil, v_cons, v_consO, v_call, v_test, v_not, v_and, v_or, v_if, bol_b, v_andV, v_orV, v_notV, v_chain, v_lst, v_tup, szR_0, szR_1, szR_2, szR_3, szR_4, szR_5, szR_6, szR_7, szR_8, szR_9, szR_10, szR_11, szR_12, szR_13, szR_14, v_L, v_mu, v_Q, v_P0, iOf_i, v_P, v_sl, v_meth, v_par, v_ifS, v_set, v_setOw, v_ret, v_drop, v_for, v_lam, oCatL_le, oCatQ_le, oAdd_l, oAdd_t, oMul_l2, oMul_l3, oMul_l4, oMul_l5, Nat.reduceLeDiff, oItems_l, oItems_t, oItems_s, oItemsQ_i, oSl_l, oSl_t, oSl_sc, oTupOf_i, oLstOf_i, oSum_i, oAll_i, oAny_i, oMod_p, oDiv_p, oMul_L, oMul_R, oPow_6, oPow_12, oPow_18, oPow_20, oPow_36, oInt_i, oInt_b, oAbs_i, oLen_l, oLen_t, oLenQ_i, oIx_mu, at_0, at_1, at_2, at_3, at_4, at_5, ix5_0, ix5_1, ix5_2, ix5_3, ix5_4, Int.reduceLT, Int.reduceNeg, Int.reduceAdd, Int.reduceSub, Int.reduceMul, oAdd_i, oSub_i, oNeg_i, oLt_i, oLe_i, oGt_i, oGe_i, oMin_i, oMax_i, oEq_i, oNe_i, oEq_s, oNe_s, oIxQ_i, oIx_l, oIx_t, asB_b, asQ_l, asQ_t, v_var, var_fz, v_app, app_ow, v_ext, ext_ow, v_frzE, frs_ow, frs_fz, v_own, own_fl, own_ft, own_ow, own_sh, lp_nx, lp_ct, lp_bk, lp_rt, lp_exc, lp_bad, lp_ite, ag_some, ag_none, fl_nil, fl_cons, g_N, g_nil, g_cons, g_T, o_some, v_asg, v_try, try_exc, try_nx, try_rt, trE_rt, trE_nx, v_thkE, v_thkR, thk_rv, said_nx, said_rt, v_isE, isE_rv, v_wipeR, v_callL, callL_fn, lkL_some, v_store, may_ow, may_fz, may_t, sto_ow, sto_mu, ixO_s, List.getElem?_cons_succ, List.getElem?_cons_zero, List.set_cons_succ, List.set_cons_zero, startE, List.zipWith, List.replicate, List.length_cons, List.length_nil, List.cons_append, List.nil_append, setE, Nat.reduceSub, Nat.reduceAdd, if_true, if_false, ite_true, ite_false, Bool.not_true, Bool.not_false, Bool.false_eq_true,
                   c1, c2, decide_true, Bool.true_and]
            by_cases c3 : (1 : Int) ≤ p
            · simp (config := {implicitDefEqProofs := false}) only [b_ok, b_exc, b_bad, b_ite, l_some, l_none, of_ok, of_exc, of_bad, of_ite, sq_nx, sq_rt, sq_bk, sq_ct, sq_exc, sq_bad, sq_ite, fn_nx, fn_rt, fn_exc, fn_bad, fn_ite, v_mkF, v_seq, v_next, v_retN, v_brk, v_cont, v_raise, v_frz, v_bin, v_op1, v_c, v_nil, v_cons, v_consO, v_call, v_test, v_not, v_and, v_or, v_if, bol_b, v_andV, v_orV, v_notV, v_chain, v_lst, v_tup, szR_0, szR_1, szR_2, szR_3, szR_4, szR_5, szR_6, szR_7, szR_8, szR_9, szR_10, szR_11, szR_12, szR_13, szR_14, v_L, v_mu, v_Q, v_P0, iOf_i, v_P, v_sl, v_meth, v_par, v_ifS, v_set, v_setOw, v_ret, v_drop, v_for, v_lam, oCatL_le, oCatQ_le, oAdd_l, oAdd_t, oMul_l2, oMul_l3, oMul_l4, oMul_l5, Nat.reduceLeDiff, oItems_l, oItems_t, oItems_s, oItemsQ_i, oSl_l, oSl_t, oSl_sc, oTupOf_i, oLstOf_i, oSum_i, oAll_i, oAny_i, oMod_p, oDiv_p, oMul_L, oMul_R, oPow_6, oPow_12, oPow_18, oPow_20, oPow_36, oInt_i, oInt_b, oAbs_i, oLen_l, oLen_t, oLenQ_i, oIx_mu, at_0, at_1, at_2, at_3, at_4, at_5, ix5_0, ix5_1, ix5_2, ix5_3, ix5_4, Int.reduceLT, Int.reduceNeg, Int.reduceAdd, Int.reduceSub, Int.reduceMul, oAdd_i, oSub_i, oNeg_i, oLt_i, oLe_i, oGt_i, oGe_i, oMin_i, oMax_i, oEq_i, oNe_i, oEq_s, oNe_s, oIxQ_i, oIx_l, oIx_t, asB_b, asQ_l, asQ_t, v_var, var_fz, v_app, app_ow, v_ext, ext_ow, v_frzE, frs_ow, frs_fz, v_own, own_fl, own_ft, own_ow, own_sh, lp_nx, lp_ct, lp_bk, lp_rt, lp_exc, lp_bad, lp_ite, ag_some, ag_none, fl_nil, fl_cons, g_N, g_nil, g_cons, g_T, o_some, v_asg, v_try, try_exc, try_nx, try_rt, trE_rt, trE_nx, v_thkE, v_thkR, thk_rv, said_nx, said_rt, v_isE, isE_rv, v_wipeR, v_callL, callL_fn, lkL_some, v_store, may_ow, may_fz, may_t, sto_ow, sto_mu, ixO_s, List.getElem?_cons_succ, List.getElem?_cons_zero, List.set_cons_succ, List.set_cons_zero, startE, List.zipWith, List.replicate, List.length_cons, List.length_nil, List.cons_append, List.nil_append, setE, Nat.reduceSub, Nat.reduceAdd, if_true, if_false, ite_true, ite_false, Bool.not_true, Bool.not_false, Bool.false_eq_true,
                     c3, decide_true, Bool.true_and]
            · simp (config := {implicitDefEqProofs := false}) only [b_ok, b_exc, b_bad, b_ite, l_some, l_none, of_ok, of_exc, of_bad, of_ite, sq_nx, sq_rt, sq_bk, sq_ct, sq_exc, sq_bad, sq_ite, fn_nx, fn_rt, fn_exc, fn_bad, fn_ite, v_mkF, v_seq, v_next, v_retN, v_brk, v_cont, v_raise, v_frz, v_bin, v_op1, v_c, v_nil, v_cons, v_consO, v_call, v_test, v_not, v_and, v_or, v_if, bol_b, v_andV, v_orV, v_notV, v_chain, v_lst, v_tup, szR_0, szR_1, szR_2, szR_3, szR_4, szR_5, szR_6, szR_7, szR_8, szR_9, szR_10, szR_11, szR_12, szR_13, szR_14, v_L, v_mu, v_Q, v_P0, iOf_i, v_P, v_sl, v_meth, v_par, v_ifS, v_set, v_setOw, v_ret, v_drop, v_for, v_lam, oCatL_le, oCatQ_le, oAdd_l, oAdd_t, oMul_l2, oMul_l3, oMul_l4, oMul_l5, Nat.reduceLeDiff, oItems_l, oItems_t, oItems_s, oItemsQ_i, oSl_l, oSl_t, oSl_sc, oTupOf_i, oLstOf_i, oSum_i, oAll_i, oAny_i, oMod_p, oDiv_p, oMul_L, oMul_R, oPow_6, oPow_12, oPow_18, oPow_20, oPow_36, oInt_i, oInt_b, oAbs_i, oLen_l, oLen_t, oLenQ_i, oIx_mu, at_0, at_1, at_2, at_3, at_4, at_5, ix5_0, ix5_1, ix5_2, ix5_3, ix5_4, Int.reduceLT, Int.reduceNeg, Int.reduceAdd, Int.reduceSub, Int.reduceMul, oAdd_i, oSub_i, oNeg_i, oLt_i, oLe_i, oGt_i, oGe_i, oMin_i, oMax_i, oEq_i, oNe_i, oEq_s, oNe_s, oIxQ_i, oIx_l, oIx_t, asB_b, asQ_l, asQ_t, v_var, var_fz, v_app, app_ow, v_ext, ext_ow, v_frzE, frs_ow, frs_fz, v_own, own_fl, own_ft, own_ow, own_sh, lp_nx, lp_ct, lp_bk, lp_rt, lp_exc, lp_bad, lp_ite, ag_some, ag_none, fl_nil, fl_cons, g_N, g_nil, g_cons, g_T, o_some, v_asg, v_try, try_exc, try_nx, try_rt, trE_rt, trE_nx, v_thkE, v_thkR, thk_rv, said_nx, said_rt, v_isE, isE_rv, v_wipeR, v_callL, callL_fn, lkL_some, v_store, may_ow, may_fz, may_t, sto_ow, sto_mu, ixO_s, List.getElem?_cons_succ, List.getElem?_cons_zero, List.set_cons_succ, List.set_cons_zero, startE, List.zipWith, List.replicate, List.length_cons, List.length_nil, List.cons_append, List.nil_append, setE, Nat.reduceSub, Nat.reduceAdd, if_true, if_false, ite_true, ite_false, Bool.not_true, Bool.not_false, Bool.false_eq_true,
                     c3, decide_false, Bool.false_and]
          · simp (config := {implicitDefEqProofs := false}) only [b_ok, b_exc, b_bad, b_ite, l_some, l_none, of_ok, of_exc, of_bad, of_ite, sq_nx, sq_rt, sq_bk, sq_ct, sq_exc, sq_bad, sq_ite, fn_nx, fn_rt, fn_exc, fn_bad, fn_ite, v_mkF, v_seq, v_next, v_retN, v_brk, v_cont, v_raise, v_frz, v_bin, v_op1, v_c, v_nil, v_cons, v_consO, v_call, v_test, v_not, v_and, v_or, v_if, bol_b, v_andV, v_orV, v_notV, v_chain, v_lst, v_tup, szR_0, szR_1, szR_2, szR_3, szR_4, szR_5, szR_6, szR_7, szR_8, szR_9, szR_10, szR_11, szR_12, szR_13, szR_14, v_L, v_mu, v_Q, v_P0, iOf_i, v_P, v_sl, v_meth, v_par, v_ifS, v_set, v_setOw, v_ret, v_drop, v_for, v_lam, oCatL_le, oCatQ_le, oAdd_l, oAdd_t, oMul_l2, oMul_l3, oMul_l4, oMul_l5, Nat.reduceLeDiff, oItems_l, oItems_t, oItems_s, oItemsQ_i, oSl_l, oSl_t, oSl_sc, oTupOf_i, oLstOf_i, oSum_i, oAll_i, oAny_i, oMod_p, oDiv_p, oMul_L, oMul_R, oPow_6, oPow_12, oPow_18, oPow_20, oPow_36, oInt_i, oInt_b, oAbs_i, oLen_l, oLen_t, oLenQ_i, oIx_mu, at_0, at_1, at_2, at_3, at_4, at_5, ix5_0, ix5_1, ix5_2, ix5_3, ix5_4, Int.reduceLT, Int.reduceNeg, Int.reduceAdd, Int.reduceSub, Int.reduceMul, oAdd_i, oSub_i, oNeg_i, oLt_i, oLe_i, oGt_i, oGe_i, oMin_i, oMax_i, oEq_i, oNe_i, oEq_s, oNe_s, oIxQ_i, oIx_l, oIx_t, asB_b, asQ_l, asQ_t, v_var, var_fz, v_app, app_ow, v_ext, ext_ow, v_frzE, frs_ow, frs_fz, v_own, own_fl, own_ft, own_ow, own_sh, lp_nx, lp_ct, lp_bk, lp_rt, lp_exc, lp_bad, lp_ite, ag_some, ag_none, fl_nil, fl_cons, g_N, g_nil, g_cons, g_T, o_some, v_asg, v_try, try_exc, try_nx, try_rt, trE_rt, trE_nx, v_thkE, v_thkR, thk_rv, said_nx, said_rt, v_isE, isE_rv, v_wipeR, v_callL, callL_fn, lkL_some, v_store, may_ow, may_fz, may_t, sto_ow, sto_mu, ixO_s, List.getElem?_cons_succ, List.getElem?_cons_zero, List.set_cons_succ, List.set_cons_zero, startE, List.zipWith, List.replicate, List.length_cons, List.length_nil, List.cons_append, List.nil_append, setE, Nat.reduceSub, Nat.reduceAdd, if_true, if_false, ite_true, ite_false, Bool.not_true, Bool.not_false, Bool.false_eq_true,
                   c1, c2, decide_true, decide_false, Bool.false_and, Bool.true_and]
        · simp (config := {implicitDefEqProofs := false}) only [b_ok, b_exc, b_bad, b_ite, l_some, l_none, of_ok, of_exc, of_bad, of_ite, sq_nx, sq_rt, sq_bk, sq_ct, sq_exc, sq_bad, sq_ite, fn_nx, fn_rt, fn_exc, fn_bad, fn_ite, v_mkF, v_seq, v_next, v_retN, v_brk, v_cont, v_raise, v_frz, v_bin, v_op1, v_c, v_nil, v_cons, v_consO, v_call, v_test, v_not, v_and, v_or, v_if, bol_b, v_andV, v_orV, v_notV, v_chain, v_lst, v_tup, szR_0, szR_1, szR_2, szR_3, szR_4, szR_5, szR_6, szR_7, szR_8, szR_9, szR_10, szR_11, szR_12, szR_13, szR_14, v_L, v_mu, v_Q, v_P0, iOf_i, v_P, v_sl, v_meth, v_par, v_ifS, v_set, v_setOw, v_ret, v_drop, v_for, v_lam, oCatL_le, oCatQ_le, oAdd_l, oAdd_t, oMul_l2, oMul_l3, oMul_l4, oMul_l5, Nat.reduceLeDiff, oItems_l, oItems_t, oItems_s, oItemsQ_i, oSl_l, oSl_t, oSl_sc, oTupOf_i, oLstOf_i, oSum_i, oAll_i, oAny_i, oMod_p, oDiv_p, oMul_L, oMul_R, oPow_6, oPow_12, oPow_18, oPow_20, oPow_36, oInt_i, oInt_b, oAbs_i, oLen_l, oLen_t, oLenQ_i, oIx_mu, at_0, at_1, at_2, at_3, at_4, at_5, ix5_0, ix5_1, ix5_2, ix5_3, ix5_4, Int.reduceLT, Int.reduceNeg, Int.reduceAdd, Int.reduceSub, Int.reduceMul, oAdd_i, oSub_i, oNeg_i, oLt_i, oLe_i, oGt_i, oGe_i, oMin_i, oMax_i, oEq_i, oNe_i, oEq_s, oNe_s, oIxQ_i, oIx_l, oIx_t, asB_b, asQ_l, asQ_t, v_var, var_fz, v_app, app_ow, v_ext, ext_ow, v_frzE, frs_ow, frs_fz, v_own, own_fl, own_ft, own_ow, own_sh, lp_nx, lp_ct, lp_bk, lp_rt, lp_exc, lp_bad, lp_ite, ag_some, ag_none, fl_nil, fl_cons, g_N, g_nil, g_cons, g_T, o_some, v_asg, v_try, try_exc, try_nx, try_rt, trE_rt, trE_nx, v_thkE, v_thkR, thk_rv, said_nx, said_rt, v_isE, isE_rv, v_wipeR, v_callL, callL_fn, lkL_some, v_store, may_ow, may_fz, may_t, sto_ow, sto_mu, ixO_s, List.getElem?_cons_succ, List.getElem?_cons_zero, List.set_cons_succ, List.set_cons_zero, startE, List.zipWith, List.replicate, List.length_cons, List.length_nil, List.cons_append, List.nil_append, setE, Nat.reduceSub, Nat.reduceAdd, if_true, if_false, ite_true, ite_false, Bool.not_true, Bool.not_false, Bool.false_eq_true,
                 c1, decide_false, Bool.false_and]
    · have e2 : ((q : Int) == 2) = false := by simpa using (show ¬ (q : Int) = 2 by omega)
      by_cases h4 : q = 4 ∨ q = 6 ∨ q = 9 ∨ q = 11
      · have hm : ml q r = 30 := by unfold ml; rw [if_neg (by omega), if_pos (by omega)]
        simp (config := {implicitDefEqProofs := false}) only [b_ok, b_exc, b_bad, b_ite, l_some, l_none, of_ok, of_exc, of_bad, of_ite, sq_nx, sq_rt, sq_bk, sq_ct, sq_exc, sq_bad, sq_ite, fn_nx, fn_rt, fn_exc, fn_bad, fn_ite, v_mkF, v_seq, v_next, v_retN, v_brk, v_cont, v_raise, v_frz, v_bin, v_op1, v_c, v_nil, v_cons, v_consO, v_call, v_test, v_not, v_and, v_or, v_if, bol_b, v_andV, v_orV, v_notV, v_chain, v_lst, v_tup, szR_0, szR_1, szR_2, szR_3, szR_4, szR_5, szR_6, szR_7, szR_8, szR_9, szR_10, szR_11, szR_12, szR_13, szR_14, v_L, v_mu, v_Q, v_P0, iOf_i, v_P, v_sl, v_meth, v_par, v_ifS, v_set, v_setOw, v_ret, v_drop, v_for, v_lam, oCatL_le, oCatQ_le, oAdd_l, oAdd_t, oMul_l2, oMul_l3, oMul_l4, oMul_l5, Nat.reduceLeDiff, oItems_l, oItems_t, oItems_s, oItemsQ_i, oSl_l, oSl_t, oSl_sc, oTupOf_i, oLstOf_i, oSum_i, oAll_i, oAny_i, oMod_p, oDiv_p, oMul_L, oMul_R, oPow_6, oPow_12, oPow_18, oPow_20, oPow_36, oInt_i, oInt_b, oAbs_i, oLen_l, oLen_t, oLenQ_i, oIx_mu, at_0, at_1, at_2, at_3, at_4, at_5, ix5_0, ix5_1, ix5_2, ix5_3, ix5_4, Int.reduceLT, Int.reduceNeg, Int.reduceAdd, Int.reduceSub, Int.reduceMul, oAdd_i, oSub_i, oNeg_i, oLt_i, oLe_i, oGt_i, oGe_i, oMin_i, oMax_i, oEq_i, oNe_i, oEq_s, oNe_s, oIxQ_i, oIx_l, oIx_t, asB_b, asQ_l, asQ_t, v_var, var_fz, v_app, app_ow, v_ext, ext_ow, v_frzE, frs_ow, frs_fz, v_own, own_fl, own_ft, own_ow, own_sh, lp_nx, lp_ct, lp_bk, lp_rt, lp_exc, lp_bad, lp_ite, ag_some, ag_none, fl_nil, fl_cons, g_N, g_nil, g_cons, g_T, o_some, v_asg, v_try, try_exc, try_nx, try_rt, trE_rt, trE_nx, v_thkE, v_thkR, thk_rv, said_nx, said_rt, v_isE, isE_rv, v_wipeR, v_callL, callL_fn, lkL_some, v_store, may_ow, may_fz, may_t, sto_ow, sto_mu, ixO_s, List.getElem?_cons_succ, List.getElem?_cons_zero, List.set_cons_succ, List.set_cons_zero, startE, List.zipWith, List.replicate, List.length_cons, List.length_nil, List.cons_append, List.nil_append, setE, Nat.reduceSub, Nat.reduceAdd, if_true, if_false, ite_true, ite_false, Bool.not_true, Bool.not_false, Bool.false_eq_true,
               oSl_s (z := z) (show z.length ≤ 1000000 by omega), (mk_sl mk s).1, (mk_sl mk s).2.1, (mk_sl mk s).2.2, e2, hin, h4, decide_true]
        unfold good3
        rw [hm]
        by_cases c1 : (1 : Int) ≤ q
        · by_cases c2 : (q : Int) ≤ 12
          · simp (config := {implicitDefEqProofs := false}) only [b_ok, b_exc, b_bad, b_ite, l_some, l_none, of_ok, of_exc, of_bad, of_ite, sq_nx, sq_rt, sq_bk, sq_ct, sq_exc, sq_bad, sq_ite, fn_nx, fn_rt, fn_exc, fn_bad, fn_ite, v_mkF, v_seq, v_next, v_retN, v_brk, v_cont, v_raise, v_frz, v_bin, v_op1, v_c, v_nil, v_cons, v_consO, v_call, v_test, v_not, v_and, v_or, v_if, bol_b, v_andV, v_orV, v_notV, v_chain, v_lst, v_tup, szR_0, szR_1, szR_2, szR_3, szR_4, szR_5, szR_6, szR_7, szR_8, szR_9, szR_10, szR_11, szR_12, szR_13, szR_14, v_L, v_mu, v_Q, v_P0, iOf_i, v_P, v_sl, v_meth, v_par, v_ifS, v_set, v_setOw, v_ret, v_drop, v_for, v_lam, oCatL_le, oCatQ_le, oAdd_l, oAdd_t, oMul_l2, oMul_l3, oMul_l4, oMul_l5, Nat.reduceLeDiff, oItems_l, oItems_t, oItems_s, oItemsQ_i, oSl_l, oSl_t, oSl_sc, oTupOf_i, oLstOf_i, oSum_i, oAll_i, oAny_i, oMod_p, oDiv_p, oMul_L, oMul_R, oPow_6, oPow_12, oPow_18, oPow_20, oPow_36, oInt_i, oInt_b, oAbs_i, oLen_l, oLen_t, oLenQ_i, oIx_mu, at_0, at_1, at_2, at_3, at_4, at_5, ix5_0, ix5_1, ix5_2, ix5_3, ix5_4, Int.reduceLT, Int.reduceNeg, Int.reduceAdd, Int.reduceSub, Int.reduceMul, oAdd_i, oSub_i, oNeg_i, oLt_i, oLe_i, oGt_i, oGe_i, oMin_i, oMax_i, oEq_i, oNe_i, oEq_s, oNe_s, oIxQ_i, oIx_l, oIx_t, asB_b, asQ_l, asQ_t, v_var, var_fz, v_app, app_ow, v_ext, ext_ow, v_frzE, frs_ow, frs_fz, v_own, own_fl, own_ft, own_ow, own_sh, lp_nx, lp_ct, lp_bk, lp_rt, lp_exc, lp_bad, lp_ite, ag_some, ag_none, fl_nil, fl_cons, g_N, g_nil, g_cons, g_T, o_some, v_asg, v_try, try_exc, try_nx, try_rt, trE_rt, trE_nx, v_thkE, v_thkR, thk_rv, said_nx, said_rt, v_isE, isE_rv, v_wipeR, v_callL, callL_fn, lkL_some, v_store, may_ow, may_fz, may_t, sto_ow, sto_mu, ixO_s, List.getElem?_cons_succ, List.getElem?_cons_zero, List.set_cons_succ, List.set_cons_zero, startE, List.zipWith, List.replicate, List.length_cons, List.length_nil, List.cons_append, List.nil_append, setE, Nat.reduceSub, Nat.reduceAdd, if_true, if_false, ite_true, ite_false, Bool.not_true, Bool.not_false, Bool.false_eq_true,
                   c1, c2, decide_true, Bool.true_and]
            by_cases c3 : (1 : Int) ≤ p
            · simp (config := {implicitDefEqProofs := false}) only [b_ok, b_exc, b_bad, b_ite, l_some, l_none, of_ok, of_exc, of_bad, of_ite, sq_nx, sq_rt, sq_bk, sq_ct, sq_exc, sq_bad, sq_ite, fn_nx, fn_rt, fn_exc, fn_bad, fn_ite, v_mkF, v_seq, v_next, v_retN, v_brk, v_cont, v_raise, v_frz, v_bin, v_op1, v_c, v_nil, v_cons, v_consO, v_call, v_test, v_not, v_and, v_or, v_if, bol_b, v_andV, v_orV, v_notV, v_chain, v_lst, v_tup, szR_0, szR_1, szR_2, szR_3, szR_4, szR_5, szR_6, szR_7, szR_8, szR_9, szR_10, szR_11, szR_12, szR_13, szR_14, v_L, v_mu, v_Q, v_P0, iOf_i, v_P, v_sl, v_meth, v_par, v_ifS, v_set, v_setOw, v_ret, v_drop, v_for, v_lam, oCatL_le, oCatQ_le, oAdd_l, oAdd_t, oMul_l2, oMul_l3, oMul_l4, oMul_l5, Nat.reduceLeDiff, oItems_l, oItems_t, oItems_s, oItemsQ_i, oSl_l, oSl_t, oSl_sc, oTupOf_i, oLstOf_i, oSum_i, oAll_i, oAny_i, oMod_p, oDiv_p, oMul_L, oMul_R, oPow_6, oPow_12, oPow_18, oPow_20, oPow_36, oInt_i, oInt_b, oAbs_i, oLen_l, oLen_t, oLenQ_i, oIx_mu, at_0, at_1, at_2, at_3, at_4, at_5, ix5_0, ix5_1, ix5_2, ix5_3, ix5_4, Int.reduceLT, Int.reduceNeg, Int.reduceAdd, Int.reduceSub, Int.reduceMul, oAdd_i, oSub_i, oNeg_i, oLt_i, oLe_i, oGt_i, oGe_i, oMin_i, oMax_i, oEq_i, oNe_i, oEq_s, oNe_s, oIxQ_i, oIx_l, oIx_t, asB_b, asQ_l, asQ_t, v_var, var_fz, v_app, app_ow, v_ext, ext_ow, v_frzE, frs_ow, frs_fz, v_own, own_fl, own_ft, own_ow, own_sh, lp_nx, lp_ct, lp_bk, lp_rt, lp_exc, lp_bad, lp_ite, ag_some, ag_none, fl_nil, fl_cons, g_N, g_nil, g_cons, g_T, o_some, v_asg, v_try, try_exc, try_nx, try_rt, trE_rt, trE_nx, v_thkE, v_thkR, thk_rv, said_nx, said_rt, v_isE, isE_rv, v_wipeR, v_callL, callL_fn, lkL_some, v_store, may_ow, may_fz, may_t, sto_ow, sto_mu, ixO_s, List.getElem?_cons_succ, List.getElem?_cons_zero, List.set_cons_succ, List.set_cons_zero, startE, List.zipWith, List.replicate, List.length_cons, List.length_nil, List.cons_append, List.nil_append, setE, Nat.reduceSub, Nat.reduceAdd, if_true, if_false, ite_true, ite_false, Bool.not_true, Bool.not_false, Bool.false_eq_true,
                     c3, decide_true, Bool.true_and]
            · simp (config := {implicitDefEqProofs := false}) only [b_ok, b_exc, b_bad, b_ite, l_some, l_none, of_ok, of_exc, of_bad, of_ite, sq_nx, sq_rt, sq_bk, sq_ct, sq_exc, sq_bad, sq_ite, fn_nx, fn_rt, fn_exc, fn_bad, fn_ite, v_mkF, v_seq, v_next, v_retN, v_brk, v_cont, v_raise, v_frz, v_bin, v_op1, v_c, v_nil, v_cons, v_consO, v_call, v_test, v_not, v_and, v_or, v_if, bol_b, v_andV, v_orV, v_notV, v_chain, v_lst, v_tup, szR_0, szR_1, szR_2, szR_3, szR_4, szR_5, szR_6, szR_7, szR_8, szR_9, szR_10, szR_11, szR_12, szR_13, szR_14, v_L, v_mu, v_Q, v_P0, iOf_i, v_P, v_sl, v_meth, v_par, v_ifS, v_set, v_setOw, v_ret, v_drop, v_for, v_lam, oCatL_le, oCatQ_le, oAdd_l, oAdd_t, oMul_l2, oMul_l3, oMul_l4, oMul_l5, Nat.reduceLeDiff, oItems_l, oItems_t, oItems_s, oItemsQ_i, oSl_l, oSl_t, oSl_sc, oTupOf_i, oLstOf_i, oSum_i, oAll_i, oAny_i, oMod_p, oDiv_p, oMul_L, oMul_R, oPow_6, oPow_12, oPow_18, oPow_20, oPow_36, oInt_i, oInt_b, oAbs_i, oLen_l, oLen_t, oLenQ_i, oIx_mu, at_0, at_1, at_2, at_3, at_4, at_5, ix5_0, ix5_1, ix5_2, ix5_3, ix5_4, Int.reduceLT, Int.reduceNeg, Int.reduceAdd, Int.reduceSub, Int.reduceMul, oAdd_i, oSub_i, oNeg_i, oLt_i, oLe_i, oGt_i, oGe_i, oMin_i, oMax_i, oEq_i, oNe_i, oEq_s, oNe_s, oIxQ_i, oIx_l, oIx_t, asB_b, asQ_l, asQ_t, v_var, var_fz, v_app, app_ow, v_ext, ext_ow, v_frzE, frs_ow, frs_fz, v_own, own_fl, own_ft, own_ow, own_sh, lp_nx, lp_ct, lp_bk, lp_rt, lp_exc, lp_bad, lp_ite, ag_some, ag_none, fl_nil, fl_cons, g_N, g_nil, g_cons, g_T, o_some, v_asg, v_try, try_exc, try_nx, try_rt, trE_rt, trE_nx, v_thkE, v_thkR, thk_rv, said_nx, said_rt, v_isE, isE_rv, v_wipeR, v_callL, callL_fn, lkL_some, v_store, may_ow, may_fz, may_t, sto_ow, sto_mu, ixO_s, List.getElem?_cons_succ, List.getElem?_cons_zero, List.set_cons_succ, List.set_cons_zero, startE, List.zipWith, List.replicate, List.length_cons, List.length_nil, List.cons_append, List.nil_append, setE, Nat.reduceSub, Nat.reduceAdd, if_true, if_false, ite_true, ite_false, Bool.not_true, Bool.not_false, Bool.false_eq_true,
                     c3, decide_false, Bool.false_and]
          · simp (config := {implicitDefEqProofs := false}) only [b_ok, b_exc, b_bad, b_ite, l_some, l_none, of_ok, of_exc, of_bad, of_ite, sq_nx, sq_rt, sq_bk, sq_ct, sq_exc, sq_bad, sq_ite, fn_nx, fn_rt, fn_exc, fn_bad, fn_ite, v_mkF, v_seq, v_next, v_retN, v_brk, v_cont, v_raise, v_frz, v_bin, v_op1, v_c, v_nil, v_cons, v_consO, v_call, v_test, v_not, v_and, v_or, v_if, bol_b, v_andV, v_orV, v_notV, v_chain, v_lst, v_tup, szR_0, szR_1, szR_2, szR_3, szR_4, szR_5, szR_6, szR_7, szR_8, szR_9, szR_10, szR_11, szR_12, szR_13, szR_14, v_L, v_mu, v_Q, v_P0, iOf_i, v_P, v_sl, v_meth, v_par, v_ifS, v_set, v_setOw, v_ret, v_drop, v_for, v_lam, oCatL_le, oCatQ_le, oAdd_l, oAdd_t, oMul_l2, oMul_l3, oMul_l4, oMul_l5, Nat.reduceLeDiff, oItems_l, oItems_t, oItems_s, oItemsQ_i, oSl_l, oSl_t, oSl_sc, oTupOf_i, oLstOf_i, oSum_i, oAll_i, oAny_i, oMod_p, oDiv_p, oMul_L, oMul_R, oPow_6, oPow_12, oPow_18, oPow_20, oPow_36, oInt_i, oInt_b, oAbs_i, oLen_l, oLen_t, oLenQ_i, oIx_mu, at_0, at_1, at_2, at_3, at_4, at_5, ix5_0, ix5_1, ix5_2, ix5_3, ix5_4, Int.reduceLT, Int.reduceNeg, Int.reduceAdd, Int.reduceSub, Int.reduceMul, oAdd_i, oSub_i, oNeg_i, oLt_i, oLe_i, oGt_i, oGe_i, oMin_i, oMax_i, oEq_i, oNe_i, oEq_s, oNe_s, oIxQ_i, oIx_l, oIx_t, asB_b, asQ_l, asQ_t, v_var, var_fz, v_app, app_ow, v_ext, ext_ow, v_frzE, frs_ow, frs_fz, v_own, own_fl, own_ft, own_ow, own_sh, lp_nx, lp_ct, lp_bk, lp_rt, lp_exc, lp_bad, lp_ite, ag_some, ag_none, fl_nil, fl_cons, g_N, g_nil, g_cons, g_T, o_some, v_asg, v_try, try_exc, try_nx, try_rt, trE_rt, trE_nx, v_thkE, v_thkR, thk_rv, said_nx, said_rt, v_isE, isE_rv, v_wipeR, v_callL, callL_fn, lkL_some, v_store, may_ow, may_fz, may_t, sto_ow, sto_mu, ixO_s, List.getElem?_cons_succ, List.getElem?_cons_zero, List.set_cons_succ, List.set_cons_zero, startE, List.zipWith, List.replicate, List.length_cons, List.length_nil, List.cons_append, List.nil_append, setE, Nat.reduceSub, Nat.reduceAdd, if_true, if_false, ite_true, ite_false, Bool.not_true, Bool.not_false, Bool.false_eq_true,
                   c1, c2, decide_true, decide_false, Bool.false_and, Bool.true_and]
        · simp (config := {implicitDefEqProofs := false}) only [b_ok, b_exc, b_bad, b_ite, l_some, l_none, of_ok, of_exc, of_bad, of_ite, sq_nx, sq_rt, sq_bk, sq_ct, sq_exc, sq_bad, sq_ite, fn_nx, fn_rt, fn_exc, fn_bad, fn_ite, v_mkF, v_seq, v_next, v_retN, v_brk, v_cont, v_raise, v_frz, v_bin, v_op1, v_c, v_nil, v_cons, v_consO, v_call, v_test, v_not, v_and, v_or, v_if, bol_b, v_andV, v_orV, v_notV, v_chain, v_lst, v_tup, szR_0, szR_1, szR_2, szR_3, szR_4, szR_5, szR_6, szR_7, szR_8, szR_9, szR_10, szR_11, szR_12, szR_13, szR_14, v_L, v_mu, v_Q, v_P0, iOf_i, v_P, v_sl, v_meth, v_par, v_ifS, v_set, v_setOw, v_ret, v_drop, v_for, v_lam, oCatL_le, oCatQ_le, oAdd_l, oAdd_t, oMul_l2, oMul_l3, oMul_l4, oMul_l5, Nat.reduceLeDiff, oItems_l, oItems_t, oItems_s, oItemsQ_i, oSl_l, oSl_t, oSl_sc, oTupOf_i, oLstOf_i, oSum_i, oAll_i, oAny_i, oMod_p, oDiv_p, oMul_L, oMul_R, oPow_6, oPow_12, oPow_18, oPow_20, oPow_36, oInt_i, oInt_b, oAbs_i, oLen_l, oLen_t, oLenQ_i, oIx_mu, at_0, at_1, at_2, at_3, at_4, at_5, ix5_0, ix5_1, ix5_2, ix5_3, ix5_4, Int.reduceLT, Int.reduceNeg, Int.reduceAdd, Int.reduceSub, Int.reduceMul, oAdd_i, oSub_i, oNeg_i, oLt_i, oLe_i, oGt_i, oGe_i, oMin_i, oMax_i, oEq_i, oNe_i, oEq_s, oNe_s, oIxQ_i, oIx_l, oIx_t, asB_b, asQ_l, asQ_t, v_var, var_fz, v_app, app_ow, v_ext, ext_ow, v_frzE, frs_ow, frs_fz, v_own, own_fl, own_ft, own_ow, own_sh, lp_nx, lp_ct, lp_bk, lp_rt, lp_exc, lp_bad, lp_ite, ag_some, ag_none, fl_nil, fl_cons, g_N, g_nil, g_cons, g_T, o_some, v_asg, v_try, try_exc, try_nx, try_rt, trE_rt, trE_nx, v_thkE, v_thkR, thk_rv, said_nx, said_rt, v_isE, isE_rv, v_wipeR, v_callL, callL_fn, lkL_some, v_store, may_ow, may_fz, may_t, sto_ow, sto_mu, ixO_s, List.getElem?_cons_succ, List.getElem?_cons_zero, List.set_cons_succ, List.set_cons_zero, startE, List.zipWith, List.replicate, List.length_cons, List.length_nil, List.cons_append, List.nil_append, setE, Nat.reduceSub, Nat.reduceAdd, if_true, if_false, ite_true, ite_false, Bool.not_true, Bool.not_false, Bool.false_eq_true,
                 c1, decide_false, Bool.false_and]
      · have hm : ml q r = 31 := by unfold ml; rw [if_neg (by omega), if_neg (by omega)]
        simp (config := {implicitDefEqProofs := false}) only [b_ok, b_exc, b_bad, b_ite, l_some, l_none, of_ok, of_exc, of_bad, of_ite, sq_nx, sq_rt, sq_bk, sq_ct, sq_exc, sq_bad, sq_ite, fn_nx, fn_rt, fn_exc, fn_bad, fn_ite, v_mkF, v_seq, v_next, v_retN, v_brk, v_cont, v_raise, v_frz, v_bin, v_op1, v_c, v_nil, v_cons, v_consO, v_call, v_test, v_not, v_and, v_or, v_if, bol_b, v_andV, v_orV, v_notV, v_chain, v_lst, v_tup, szR_0, szR_1, szR_2, szR_3, szR_4, szR_5, szR_6, szR_7, szR_8, szR_9, szR_10, szR_11, szR_12, szR_13, szR_14, v_L, v_mu, v_Q, v_P0, iOf_i, v_P, v_sl, v_meth, v_par, v_ifS, v_set, v_setOw, v_ret, v_drop, v_for, v_lam, oCatL_le, oCatQ_le, oAdd_l, oAdd_t, oMul_l2, oMul_l3, oMul_l4, oMul_l5, Nat.reduceLeDiff, oItems_l, oItems_t, oItems_s, oItemsQ_i, oSl_l, oSl_t, oSl_sc, oTupOf_i, oLstOf_i, oSum_i, oAll_i, oAny_i, oMod_p, oDiv_p, oMul_L, oMul_R, oPow_6, oPow_12, oPow_18, oPow_20, oPow_36, oInt_i, oInt_b, oAbs_i, oLen_l, oLen_t, oLenQ_i, oIx_mu, at_0, at_1, at_2, at_3, at_4, at_5, ix5_0, ix5_1, ix5_2, ix5_3, ix5_4, Int.reduceLT, Int.reduceNeg, Int.reduceAdd, Int.reduceSub, Int.reduceMul, oAdd_i, oSub_i, oNeg_i, oLt_i, oLe_i, oGt_i, oGe_i, oMin_i, oMax_i, oEq_i, oNe_i, oEq_s, oNe_s, oIxQ_i, oIx_l, oIx_t, asB_b, asQ_l, asQ_t, v_var, var_fz, v_app, app_ow, v_ext, ext_ow, v_frzE, frs_ow, frs_fz, v_own, own_fl, own_ft, own_ow, own_sh, lp_nx, lp_ct, lp_bk, lp_rt, lp_exc, lp_bad, lp_ite, ag_some, ag_none, fl_nil, fl_cons, g_N, g_nil, g_cons, g_T, o_some, v_asg, v_try, try_exc, try_nx, try_rt, trE_rt, trE_nx, v_thkE, v_thkR, thk_rv, said_nx, said_rt, v_isE, isE_rv, v_wipeR, v_callL, callL_fn, lkL_some, v_store, may_ow, may_fz, may_t, sto_ow, sto_mu, ixO_s, List.getElem?_cons_succ, List.getElem?_cons_zero, List.set_cons_succ, List.set_cons_zero, startE, List.zipWith, List.replicate, List.length_cons, List.length_nil, List.cons_append, List.nil_append, setE, Nat.reduceSub, Nat.reduceAdd, if_true, if_false, ite_true, ite_false, Bool.not_true, Bool.not_false, Bool.false_eq_true,
               oSl_s (z := z) (show z.length ≤ 1000000 by omega), (mk_sl mk s).1, (mk_sl mk s).2.1, (mk_sl mk s).2.2, e2, hin, h4, decide_false]
        unfold good3
        rw [hm]
        by_cases c1 : (1 : Int) ≤ q
        · by_cases c2 : (q : Int) ≤ 12
          · simp (config := {implicitDefEqProofs := false}) only [b_ok, b_exc, b_bad, b_ite, l_some, l_none, of_ok, of_exc, of_bad, of_ite, sq_nx, sq_rt, sq_bk, sq_ct, sq_exc, sq_bad, sq_ite, fn_nx, fn_rt, fn_exc, fn_bad, fn_ite, v_mkF, v_seq, v_next, v_retN, v_brk, v_cont, v_raise, v_frz, v_bin, v_op1, v_c, v_nil, v_cons, v_consO, v_call, v_test, v_not, v_and, v_or, v_if, bol_b, v_andV, v_orV, v_notV, v_chain, v_lst, v_tup, szR_0, szR_1, szR_2, szR_3, szR_4, szR_5, szR_6, szR_7, szR_8, szR_9, szR_10, szR_11, szR_12, szR_13, szR_14, v_L, v_mu, v_Q, v_P0, iOf_i, v_P, v_sl, v_meth, v_par, v_ifS, v_set, v_setOw, v_ret, v_drop, v_for, v_lam, oCatL_le, oCatQ_le, oAdd_l, oAdd_t, oMul_l2, oMul_l3, oMul_l4, oMul_l5, Nat.reduceLeDiff, oItems_l, oItems_t, oItems_s, oItemsQ_i, oSl_l, oSl_t, oSl_sc, oTupOf_i, oLstOf_i, oSum_i, oAll_i, oAny_i, oMod_p, oDiv_p, oMul_L, oMul_R, oPow_6, oPow_12, oPow_18, oPow_20, oPow_36, oInt_i, oInt_b, oAbs_i, oLen_l, oLen_t, oLenQ_i, oIx_mu, at_0, at_1, at_2, at_3, at_4, at_5, ix5_0, ix5_1, ix5_2, ix5_3, ix5_4, Int.reduceLT, Int.reduceNeg, Int.reduceAdd, Int.reduceSub, Int.reduceMul, oAdd_i, oSub_i, oNeg_i, oLt_i, oLe_i, oGt_i, oGe_i, oMin_i, oMax_i, oEq_i, oNe_i, oEq_s, oNe_s, oIxQ_i, oIx_l, oIx_t, asB_b, asQ_l, asQ_t, v_var, var_fz, v_app, app_ow, v_ext, ext_ow, v_frzE, frs_ow, frs_fz, v_own, own_fl, own_ft, own_ow, own_sh, lp_nx, lp_ct, lp_bk, lp_rt, lp_exc, lp_bad, lp_ite, ag_some, ag_none, fl_nil, fl_cons, g_N, g_nil, g_cons, g_T, o_some, v_asg, v_try, try_exc, try_nx, try_rt, trE_rt, trE_nx, v_thkE, v_thkR, thk_rv, said_nx, said_rt, v_isE, isE_rv, v_wipeR, v_callL, callL_fn, lkL_some, v_store, may_ow, may_fz, may_t, sto_ow, sto_mu, ixO_s, List.getElem?_cons_succ, List.getElem?_cons_zero, List.set_cons_succ, List.set_cons_zero, startE, List.zipWith, List.replicate, List.length_cons, List.length_nil, List.cons_append, List.nil_append, setE, Nat.reduceSub, Nat.reduceAdd, if_true, if_false, ite_true, ite_false, Bool.not_true, Bool.not_false, Bool.false_eq_true,
                   c1, c2, decide_true, Bool.true_and]
            by_cases c3 : (1 : Int) ≤ p
            · simp (config := {implicitDefEqProofs := false}) only [b_ok, b_exc, b_bad, b_ite, l_some, l_none, of_ok, of_exc, of_bad, of_ite, sq_nx, sq_rt, sq_bk, sq_ct, sq_exc, sq_bad, sq_ite, fn_nx, fn_rt, fn_exc, fn_bad, fn_ite, v_mkF, v_seq, v_next, v_retN, v_brk, v_cont, v_raise, v_frz, v_bin, v_op1, v_c, v_nil, v_cons, v_consO, v_call, v_test, v_not, v_and, v_or, v_if, bol_b, v_andV, v_orV, v_notV, v_chain, v_lst, v_tup, szR_0, szR_1, szR_2, szR_3, szR_4, szR_5, szR_6, szR_7, szR_8, szR_9, szR_10, szR_11, szR_12, szR_13, szR_14, v_L, v_mu, v_Q, v_P0, iOf_i, v_P, v_sl, v_meth, v_par, v_ifS, v_set, v_setOw, v_ret, v_drop, v_for, v_lam, oCatL_le, oCatQ_le, oAdd_l, oAdd_t, oMul_l2, oMul_l3, oMul_l4, oMul_l5, Nat.reduceLeDiff, oItems_l, oItems_t, oItems_s, oItemsQ_i, oSl_l, oSl_t, oSl_sc, oTupOf_i, oLstOf_i, oSum_i, oAll_i, oAny_i, oMod_p, oDiv_p, oMul_L, oMul_R, oPow_6, oPow_12, oPow_18, oPow_20, oPow_36, oInt_i, oInt_b, oAbs_i, oLen_l, oLen_t, oLenQ_i, oIx_mu, at_0, at_1, at_2, at_3, at_4, at_5, ix5_0, ix5_1, ix5_2, ix5_3, ix5_4, Int.reduceLT, Int.reduceNeg, Int.reduceAdd, Int.reduceSub, Int.reduceMul, oAdd_i, oSub_i, oNeg_i, oLt_i, oLe_i, oGt_i, oGe_i, oMin_i, oMax_i, oEq_i, oNe_i, oEq_s, oNe_s, oIxQ_i, oIx_l, oIx_t, asB_b, asQ_l, asQ_t, v_var, var_fz, v_app, app_ow, v_ext, ext_ow, v_frzE, frs_ow, frs_fz, v_own, own_fl, own_ft, own_ow, own_sh, lp_nx, lp_ct, lp_bk, lp_rt, lp_exc, lp_bad, lp_ite, ag_some, ag_none, fl_nil, fl_cons, g_N, g_nil, g_cons, g_T, o_some, v_asg, v_try, try_exc, try_nx, try_rt, trE_rt, trE_nx, v_thkE, v_thkR, thk_rv, said_nx, said_rt, v_isE, isE_rv, v_wipeR, v_callL, callL_fn, lkL_some, v_store, may_ow, may_fz, may_t, sto_ow, sto_mu, ixO_s, List.getElem?_cons_succ, List.getElem?_cons_zero, List.set_cons_succ, List.set_cons_zero, startE, List.zipWith, List.replicate, List.length_cons, List.length_nil, List.cons_append, List.nil_append, setE, Nat.reduceSub, Nat.reduceAdd, if_true, if_false, ite_true, ite_false, Bool.not_true, Bool.not_false, Bool.false_eq_true,
                     c3, decide_true, Bool.true_and]
            · simp (config := {implicitDefEqProofs := false}) only [b_ok, b_exc, b_bad, b_ite, l_some, l_none, of_ok, of_exc, of_bad, of_ite, sq_nx, sq_rt, sq_bk, sq_ct, sq_exc, sq_bad, sq_ite, fn_nx, fn_rt, fn_exc, fn_bad, fn_ite, v_mkF, v_seq, v_next, v_retN, v_brk, v_cont, v_raise, v_frz, v_bin, v_op1, v_c, v_nil, v_cons, v_consO, v_call, v_test, v_not, v_and, v_or, v_if, bol_b, v_andV, v_orV, v_notV, v_chain, v_lst, v_tup, szR_0, szR_1, szR_2, szR_3, szR_4, szR_5, szR_6, szR_7, szR_8, szR_9, szR_10, szR_11, szR_12, szR_13, szR_14, v_L, v_mu, v_Q, v_P0, iOf_i, v_P, v_sl, v_meth, v_par, v_ifS, v_set, v_setOw, v_ret, v_drop, v_for, v_lam, oCatL_le, oCatQ_le, oAdd_l, oAdd_t, oMul_l2, oMul_l3, oMul_l4, oMul_l5, Nat.reduceLeDiff, oItems_l, oItems_t, oItems_s, oItemsQ_i, oSl_l, oSl_t, oSl_sc, oTupOf_i, oLstOf_i, oSum_i, oAll_i, oAny_i, oMod_p, oDiv_p, oMul_L, oMul_R, oPow_6, oPow_12, oPow_18, oPow_20, oPow_36, oInt_i, oInt_b, oAbs_i, oLen_l, oLen_t, oLenQ_i, oIx_mu, at_0, at_1, at_2, at_3, at_4, at_5, ix5_0, ix5_1, ix5_2, ix5_3, ix5_4, Int.reduceLT, Int.reduceNeg, Int.reduceAdd, Int.reduceSub, Int.reduceMul, oAdd_i, oSub_i, oNeg_i, oLt_i, oLe_i, oGt_i, oGe_i, oMin_i, oMax_i, oEq_i, oNe_i, oEq_s, oNe_s, oIxQ_i, oIx_l, oIx_t, asB_b, asQ_l, asQ_t, v_var, var_fz, v_app, app_ow, v_ext, ext_ow, v_frzE, frs_ow, frs_fz, v_own, own_fl, own_ft, own_ow, own_sh, lp_nx, lp_ct, lp_bk, lp_rt, lp_exc, lp_bad, lp_ite, ag_some, ag_none, fl_nil, fl_cons, g_N, g_nil, g_cons, g_T, o_some, v_asg, v_try, try_exc, try_nx, try_rt, trE_rt, trE_nx, v_thkE, v_thkR, thk_rv, said_nx, said_rt, v_isE, isE_rv, v_wipeR, v_callL, callL_fn, lkL_some, v_store, may_ow, may_fz, may_t, sto_ow, sto_mu, ixO_s, List.getElem?_cons_succ, List.getElem?_cons_zero, List.set_cons_succ, List.set_cons_zero, startE, List.zipWith, List.replicate, List.length_cons, List.length_nil, List.cons_append, List.nil_append, setE, Nat.reduceSub, Nat.reduceAdd, if_true, if_false, ite_true, ite_false, Bool.not_true, Bool.not_false, Bool.false_eq_true,
                     c3, decide_false, Bool.false_and]
          · simp (config := {implicitDefEqProofs := false}) only [b_ok, b_exc, b_bad, b_ite, l_some, l_none, of_ok, of_exc, of_bad, of_ite, sq_nx, sq_rt, sq_bk, sq_ct, sq_exc, sq_bad, sq_ite, fn_nx, fn_rt, fn_exc, fn_bad, fn_ite, v_mkF, v_seq, v_next, v_retN, v_brk, v_cont, v_raise, v_frz, v_bin, v_op1, v_c, v_nil, v_cons, v_consO, v_call, v_test, v_not, v_and, v_or, v_if, bol_b, v_andV, v_orV, v_notV, v_chain, v_lst, v_tup, szR_0, szR_1, szR_2, szR_3, szR_4, szR_5, szR_6, szR_7, szR_8, szR_9, szR_10, szR_11, szR_12, szR_13, szR_14, v_L, v_mu, v_Q, v_P0, iOf_i, v_P, v_sl, v_meth, v_par, v_ifS, v_set, v_setOw, v_ret, v_drop, v_for, v_lam, oCatL_le, oCatQ_le, oAdd_l, oAdd_t, oMul_l2, oMul_l3, oMul_l4, oMul_l5, Nat.reduceLeDiff, oItems_l, oItems_t, oItems_s, oItemsQ_i, oSl_l, oSl_t, oSl_sc, oTupOf_i, oLstOf_i, oSum_i, oAll_i, oAny_i, oMod_p, oDiv_p, oMul_L, oMul_R, oPow_6, oPow_12, oPow_18, oPow_20, oPow_36, oInt_i, oInt_b, oAbs_i, oLen_l, oLen_t, oLenQ_i, oIx_mu, at_0, at_1, at_2, at_3, at_4, at_5, ix5_0, ix5_1, ix5_2, ix5_3, ix5_4, Int.reduceLT, Int.reduceNeg, Int.reduceAdd, Int.reduceSub, Int.reduceMul, oAdd_i, oSub_i, oNeg_i, oLt_i, oLe_i, oGt_i, oGe_i, oMin_i, oMax_i, oEq_i, oNe_i, oEq_s, oNe_s, oIxQ_i, oIx_l, oIx_t, asB_b, asQ_l, asQ_t, v_var, var_fz, v_app, app_ow, v_ext, ext_ow, v_frzE, frs_ow, frs_fz, v_own, own_fl, own_ft, own_ow, own_sh, lp_nx, lp_ct, lp_bk, lp_rt, lp_exc, lp_bad, lp_ite, ag_some, ag_none, fl_nil, fl_cons, g_N, g_nil, g_cons, g_T, o_some, v_asg, v_try, try_exc, try_nx, try_rt, trE_rt, trE_nx, v_thkE, v_thkR, thk_rv, said_nx, said_rt, v_isE, isE_rv, v_wipeR, v_callL, callL_fn, lkL_some, v_store, may_ow, may_fz, may_t, sto_ow, sto_mu, ixO_s, List.getElem?_cons_succ, List.getElem?_cons_zero, List.set_cons_succ, List.set_cons_zero, startE, List.zipWith, List.replicate, List.length_cons, List.length_nil, List.cons_append, List.nil_append, setE, Nat.reduceSub, Nat.reduceAdd, if_true, if_false, ite_true, ite_false, Bool.not_true, Bool.not_false, Bool.false_eq_true,
                   c1, c2, decide_true, decide_false, Bool.false_and, Bool.true_and]
        · simp (config := {implicitDefEqProofs := false}) only [b_ok, b_exc, b_bad, b_ite, l_some, l_none, of_ok, of_exc, of_bad, of_ite, sq_nx, sq_rt, sq_bk, sq_ct, sq_exc, sq_bad, sq_ite, fn_nx, fn_rt, fn_exc, fn_bad, fn_ite, v_mkF, v_seq, v_next, v_retN, v_brk, v_cont, v_raise, v_frz, v_bin, v_op1, v_c, v_nil, v_cons, v_consO, v_call, v_test, v_not, v_and, v_or, v_if, bol_b, v_andV, v_orV, v_notV, v_chain, v_lst, v_tup, szR_0, szR_1, szR_2, szR_3, szR_4, szR_5, szR_6, szR_7, szR_8, szR_9, szR_10, szR_11, szR_12, szR_13, szR_14, v_L, v_mu, v_Q, v_P0, iOf_i, v_P, v_sl, v_meth, v_par, v_ifS, v_set, v_setOw, v_ret, v_drop, v_for, v_lam, oCatL_le, oCatQ_le, oAdd_l, oAdd_t, oMul_l2, oMul_l3, oMul_l4, oMul_l5, Nat.reduceLeDiff, oItems_l, oItems_t, oItems_s, oItemsQ_i, oSl_l, oSl_t, oSl_sc, oTupOf_i, oLstOf_i, oSum_i, oAll_i, oAny_i, oMod_p, oDiv_p, oMul_L, oMul_R, oPow_6, oPow_12, oPow_18, oPow_20, oPow_36, oInt_i, oInt_b, oAbs_i, oLen_l, oLen_t, oLenQ_i, oIx_mu, at_0, at_1, at_2, at_3, at_4, at_5, ix5_0, ix5_1, ix5_2, ix5_3, ix5_4, Int.reduceLT, Int.reduceNeg, Int.reduceAdd, Int.reduceSub, Int.reduceMul, oAdd_i, oSub_i, oNeg_i, oLt_i, oLe_i, oGt_i, oGe_i, oMin_i, oMax_i, oEq_i, oNe_i, oEq_s, oNe_s, oIxQ_i, oIx_l, oIx_t, asB_b, asQ_l, asQ_t, v_var, var_fz, v_app, app_ow, v_ext, ext_ow, v_frzE, frs_ow, frs_fz, v_own, own_fl, own_ft, own_ow, own_sh, lp_nx, lp_ct, lp_bk, lp_rt, lp_exc, lp_bad, lp_ite, ag_some, ag_none, fl_nil, fl_cons, g_N, g_nil, g_cons, g_T, o_some, v_asg, v_try, try_exc, try_nx, try_rt, trE_rt, trE_nx, v_thkE, v_thkR, thk_rv, said_nx, said_rt, v_isE, isE_rv, v_wipeR, v_callL, callL_fn, lkL_some, v_store, may_ow, may_fz, may_t, sto_ow, sto_mu, ixO_s, List.getElem?_cons_succ, List.getElem?_cons_zero, List.set_cons_succ, List.set_cons_zero, startE, List.zipWith, List.replicate, List.length_cons, List.length_nil, List.cons_append, List.nil_append, setE, Nat.reduceSub, Nat.reduceAdd, if_true, if_false, ite_true, ite_false, Bool.not_true, Bool.not_false, Bool.false_eq_true,
                 c1, decide_false, Bool.false_and]
/-- whether a text of six digits is a mark -/
def gd (z : Str) : Bool := match mf_are_mark [.str z] [] with
  | .ok (.bool b) _ => b
  | _ => false
theorem e_gd {z : Str} (h : six z = true) (s : S) : mf_are_mark [.str z] s = .ok (.bool (gd z)) s ∧ mf__law_is_mark [.str z] s = .ok (.bool (gd z)) s := by
  obtain ⟨p, q, r, mk⟩ := six_mk h
  have : gd z = good3 p q r := by
    unfold gd
    rw [(e_both mk []).1]
  rw [this]
  exact e_both mk s
theorem gd_of {z : Str} {p q r : Nat} (mk : Mk z p q r) : gd z = good3 p q r := by
  unfold gd
  rw [(e_both mk []).1]
theorem e_check {z : Str} (h : six z = true) (g : gd z = true) (s : S) : mf_check_mark [.str z] s = .ok .none s ∧ mf_is_mark [.str z] s = .ok (.bool true) s := by
  have e := (e_gd h s).1
  rw [g] at e
  refine ⟨?_, ?_⟩
  · unfold mf_check_mark m_check_mark
    simp (config := {implicitDefEqProofs := false}) only [b_ok, b_exc, b_bad, b_ite, l_some, l_none, of_ok, of_exc, of_bad, of_ite, sq_nx, sq_rt, sq_bk, sq_ct, sq_exc, sq_bad, sq_ite, fn_nx, fn_rt, fn_exc, fn_bad, fn_ite, v_mkF, v_seq, v_next, v_retN, v_brk, v_cont, v_raise, v_frz, v_bin, v_op1, v_c, v_nil, v_cons, v_consO, v_call, v_test, v_not, v_and, v_or, v_if, bol_b, v_andV, v_orV, v_notV, v_chain, v_lst, v_tup, szR_0, szR_1, szR_2, szR_3, szR_4, szR_5, szR_6, szR_7, szR_8, szR_9, szR_10, szR_11, szR_12, szR_13, szR_14, v_L, v_mu, v_Q, v_P0, iOf_i, v_P, v_sl, v_meth, v_par, v_ifS, v_set, v_setOw, v_ret, v_drop, v_for, v_lam, oCatL_le, oCatQ_le, oAdd_l, oAdd_t, oMul_l2, oMul_l3, oMul_l4, oMul_l5, Nat.reduceLeDiff, oItems_l, oItems_t, oItems_s, oItemsQ_i, oSl_l, oSl_t, oSl_sc, oTupOf_i, oLstOf_i, oSum_i, oAll_i, oAny_i, oMod_p, oDiv_p, oMul_L, oMul_R, oPow_6, oPow_12, oPow_18, oPow_20, oPow_36, oInt_i, oInt_b, oAbs_i, oLen_l, oLen_t, oLenQ_i, oIx_mu, at_0, at_1, at_2, at_3, at_4, at_5, ix5_0, ix5_1, ix5_2, ix5_3, ix5_4, Int.reduceLT, Int.reduceNeg, Int.reduceAdd, Int.reduceSub, Int.reduceMul, oAdd_i, oSub_i, oNeg_i, oLt_i, oLe_i, oGt_i, oGe_i, oMin_i, oMax_i, oEq_i, oNe_i, oEq_s, oNe_s, oIxQ_i, oIx_l, oIx_t, asB_b, asQ_l, asQ_t, v_var, var_fz, v_app, app_ow, v_ext, ext_ow, v_frzE, frs_ow, frs_fz, v_own, own_fl, own_ft, own_ow, own_sh, lp_nx, lp_ct, lp_bk, lp_rt, lp_exc, lp_bad, lp_ite, ag_some, ag_none, fl_nil, fl_cons, g_N, g_nil, g_cons, g_T, o_some, v_asg, v_try, try_exc, try_nx, try_rt, trE_rt, trE_nx, v_thkE, v_thkR, thk_rv, said_nx, said_rt, v_isE, isE_rv, v_wipeR, v_callL, callL_fn, lkL_some, v_store, may_ow, may_fz, may_t, sto_ow, sto_mu, ixO_s, List.getElem?_cons_succ, List.getElem?_cons_zero, List.set_cons_succ, List.set_cons_zero, startE, List.zipWith, List.replicate, List.length_cons, List.length_nil, List.cons_append, List.nil_append, setE, Nat.reduceSub, Nat.reduceAdd, if_true, if_false, ite_true, ite_false, Bool.not_true, Bool.not_false, Bool.false_eq_true,
           e]
  · unfold mf_is_mark m_is_mark
    simp (config := {implicitDefEqProofs := false}) only [b_ok, b_exc, b_bad, b_ite, l_some, l_none, of_ok, of_exc, of_bad, of_ite, sq_nx, sq_rt, sq_bk, sq_ct, sq_exc, sq_bad, sq_ite, fn_nx, fn_rt, fn_exc, fn_bad, fn_ite, v_mkF, v_seq, v_next, v_retN, v_brk, v_cont, v_raise, v_frz, v_bin, v_op1, v_c, v_nil, v_cons, v_consO, v_call, v_test, v_not, v_and, v_or, v_if, bol_b, v_andV, v_orV, v_notV, v_chain, v_lst, v_tup, szR_0, szR_1, szR_2, szR_3, szR_4, szR_5, szR_6, szR_7, szR_8, szR_9, szR_10, szR_11, szR_12, szR_13, szR_14, v_L, v_mu, v_Q, v_P0, iOf_i, v_P, v_sl, v_meth, v_par, v_ifS, v_set, v_setOw, v_ret, v_drop, v_for, v_lam, oCatL_le, oCatQ_le, oAdd_l, oAdd_t, oMul_l2, oMul_l3, oMul_l4, oMul_l5, Nat.reduceLeDiff, oItems_l, oItems_t, oItems_s, oItemsQ_i, oSl_l, oSl_t, oSl_sc, oTupOf_i, oLstOf_i, oSum_i, oAll_i, oAny_i, oMod_p, oDiv_p, oMul_L, oMul_R, oPow_6, oPow_12, oPow_18, oPow_20, oPow_36, oInt_i, oInt_b, oAbs_i, oLen_l, oLen_t, oLenQ_i, oIx_mu, at_0, at_1, at_2, at_3, at_4, at_5, ix5_0, ix5_1, ix5_2, ix5_3, ix5_4, Int.reduceLT, Int.reduceNeg, Int.reduceAdd, Int.reduceSub, Int.reduceMul, oAdd_i, oSub_i, oNeg_i, oLt_i, oLe_i, oGt_i, oGe_i, oMin_i, oMax_i, oEq_i, oNe_i, oEq_s, oNe_s, oIxQ_i, oIx_l, oIx_t, asB_b, asQ_l, asQ_t, v_var, var_fz, v_app, app_ow, v_ext, ext_ow, v_frzE, frs_ow, frs_fz, v_own, own_fl, own_ft, own_ow, own_sh, lp_nx, lp_ct, lp_bk, lp_rt, lp_exc, lp_bad, lp_ite, ag_some, ag_none, fl_nil, fl_cons, g_N, g_nil, g_cons, g_T, o_some, v_asg, v_try, try_exc, try_nx, try_rt, trE_rt, trE_nx, v_thkE, v_thkR, thk_rv, said_nx, said_rt, v_isE, isE_rv, v_wipeR, v_callL, callL_fn, lkL_some, v_store, may_ow, may_fz, may_t, sto_ow, sto_mu, ixO_s, List.getElem?_cons_succ, List.getElem?_cons_zero, List.set_cons_succ, List.set_cons_zero, startE, List.zipWith, List.replicate, List.length_cons, List.length_nil, List.cons_append, List.nil_append, setE, Nat.reduceSub, Nat.reduceAdd, if_true, if_false, ite_true, ite_false, Bool.not_true, Bool.not_false, Bool.false_eq_true,
           e]
/-! ### turned -/
def s6 (a b c d e f : Nat) : Str := ⟨#[a, b, c, d, e, f]⟩
def dg (x : Nat) : Prop := 48 ≤ x ∧ x ≤ 57
theorem six_of {a b c d e f : Nat} (h : ∀ x ∈ [a, b, c, d, e, f], dg x) : six (s6 a b c d e f) = true := by
  unfold six digS
  rw [Bool.and_eq_true, decide_eq_true_eq]
  refine ⟨rfl, List.all_eq_true.mpr fun x hx => ?_⟩
  rw [decide_eq_true_eq, dig_mem]
  exact h x hx
theorem six_ex {z : Str} (h : six z = true) : ∃ a b c d e f, z = s6 a b c d e f ∧ ∀ x ∈ [a, b, c, d, e, f], dg x := by
  obtain ⟨p, q, r, mk⟩ := six_mk h
  obtain ⟨a, b, c, d, e, f, e1, e2, _⟩ := mk.ex
  exact ⟨a, b, c, d, e, f, e1, e2⟩
theorem six_len {z : Str} (h : six z = true) : z.length = 6 := by
  obtain ⟨a, b, c, d, e, f, rfl, _⟩ := six_ex h
  rfl
theorem six_ok {z : Str} (h : six z = true) : PyData.strOk z = true := by
  obtain ⟨a, b, c, d, e, f, rfl, k⟩ := six_ex h
  have h1 := k a (by simp); have h2 := k b (by simp); have h3 := k c (by simp); have h4 := k d (by simp); have h5 := k e (by simp); have h6 := k f (by simp)
  unfold dg at *
  show (#[a, b, c, d, e, f] : Array Nat).all (· < 0x110000) = true
  rw [← Array.all_toList]
  simp only [List.all_cons, List.all_nil, Bool.and_true, Bool.and_eq_true, decide_eq_true_eq]
  omega
def two (z : Str) : List Str := [L2.revS z, Txt.slice z (some 2) (some 4) ++ Txt.slice z none (some 2) ++ Txt.slice z (some 4) none]
def tnd (z : Str) : List Str := SetM.ord SetM.kS ((two z).filter fun x => !(x == z) && gd x)
theorem two_six {z : Str} (h : six z = true) : ∀ x ∈ two z, six x = true := by
  obtain ⟨a, b, c, d, e, f, rfl, k⟩ := six_ex h
  have e1 : L2.revS (s6 a b c d e f) = s6 f e d c b a := rfl
  have e2 : Txt.slice (s6 a b c d e f) (some 2) (some 4) ++ Txt.slice (s6 a b c d e f) none (some 2) ++ Txt.slice (s6 a b c d e f) (some 4) none = s6 c d a b e f := by
    unfold s6
    rw [sl1, sl2, sl3]
    rfl
  intro x hx
  unfold two at hx
  rw [e1, e2] at hx
  simp only [List.mem_cons, List.mem_nil_iff, or_false] at hx k
  rcases hx with rfl | rfl
  · exact six_of fun x hx => by
      simp only [List.mem_cons, List.mem_nil_iff, or_false] at hx
      exact k x (by omega)
  · exact six_of fun x hx => by
      simp only [List.mem_cons, List.mem_nil_iff, or_false] at hx
      exact k x (by omega)
theorem q_turned {z : Str} (h : six z = true) (s : S) : q_turned_marks_1 [.fz (.str z), .fz (.list ((two z).map .str)), .un] s = .ok ((((two z).filter fun x => !(x == z) && gd x)).map .str) s ∧ q__law_turned_1 [.fz (.str z), .fz (.list ((two z).map .str)), .un] s = .ok ((((two z).filter fun x => !(x == z) && gd x)).map .str) s := by
  refine ⟨?_, ?_⟩
  · refine comp_map (xs := two z) (f := .str) (s1 := s) (fun x => !(x == z) && gd x) .str (by simp (config := {implicitDefEqProofs := false}) only [b_ok, b_exc, b_bad, b_ite, l_some, l_none, of_ok, of_exc, of_bad, of_ite, sq_nx, sq_rt, sq_bk, sq_ct, sq_exc, sq_bad, sq_ite, fn_nx, fn_rt, fn_exc, fn_bad, fn_ite, v_mkF, v_seq, v_next, v_retN, v_brk, v_cont, v_raise, v_frz, v_bin, v_op1, v_c, v_nil, v_cons, v_consO, v_call, v_test, v_not, v_and, v_or, v_if, bol_b, v_andV, v_orV, v_notV, v_chain, v_lst, v_tup, szR_0, szR_1, szR_2, szR_3, szR_4, szR_5, szR_6, szR_7, szR_8, szR_9, szR_10, szR_11, szR_12, szR_13, szR_14, v_L, v_mu, v_Q, v_P0, iOf_i, v_P, v_sl, v_meth, v_par, v_ifS, v_set, v_setOw, v_ret, v_drop, v_for, v_lam, oCatL_le, oCatQ_le, oAdd_l, oAdd_t, oMul_l2, oMul_l3, oMul_l4, oMul_l5, Nat.reduceLeDiff, oItems_l, oItems_t, oItems_s, oItemsQ_i, oSl_l, oSl_t, oSl_sc, oTupOf_i, oLstOf_i, oSum_i, oAll_i, oAny_i, oMod_p, oDiv_p, oMul_L, oMul_R, oPow_6, oPow_12, oPow_18, oPow_20, oPow_36, oInt_i, oInt_b, oAbs_i, oLen_l, oLen_t, oLenQ_i, oIx_mu, at_0, at_1, at_2, at_3, at_4, at_5, ix5_0, ix5_1, ix5_2, ix5_3, ix5_4, Int.reduceLT, Int.reduceNeg, Int.reduceAdd, Int.reduceSub, Int.reduceMul, oAdd_i, oSub_i, oNeg_i, oLt_i, oLe_i, oGt_i, oGe_i, oMin_i, oMax_i, oEq_i, oNe_i, oEq_s, oNe_s, oIxQ_i, oIx_l, oIx_t, asB_b, asQ_l, asQ_t, v_var, var_fz, v_app, app_ow, v_ext, ext_ow, v_frzE, frs_ow, frs_fz, v_own, own_fl, own_ft, own_ow, own_sh, lp_nx, lp_ct, lp_bk, lp_rt, lp_exc, lp_bad, lp_ite, ag_some, ag_none, fl_nil, fl_cons, g_N, g_nil, g_cons, g_T, o_some, v_asg, v_try, try_exc, try_nx, try_rt, trE_rt, trE_nx, v_thkE, v_thkR, thk_rv, said_nx, said_rt, v_isE, isE_rv, v_wipeR, v_callL, callL_fn, lkL_some, v_store, may_ow, may_fz, may_t, sto_ow, sto_mu, ixO_s, List.getElem?_cons_succ, List.getElem?_cons_zero, List.set_cons_succ, List.set_cons_zero, startE, List.zipWith, List.replicate, List.length_cons, List.length_nil, List.cons_append, List.nil_append, setE, Nat.reduceSub, Nat.reduceAdd, if_true, if_false, ite_true, ite_false, Bool.not_true, Bool.not_false, Bool.false_eq_true]) (show 2 ≤ 1000000 by decide) fun x hx => ⟨_, rfl, ?_, fun _ => ?_⟩
    · dsimp only [wipeE]
      simp (config := {implicitDefEqProofs := false}) only [b_ok, b_exc, b_bad, b_ite, l_some, l_none, of_ok, of_exc, of_bad, of_ite, sq_nx, sq_rt, sq_bk, sq_ct, sq_exc, sq_bad, sq_ite, fn_nx, fn_rt, fn_exc, fn_bad, fn_ite, v_mkF, v_seq, v_next, v_retN, v_brk, v_cont, v_raise, v_frz, v_bin, v_op1, v_c, v_nil, v_cons, v_consO, v_call, v_test, v_not, v_and, v_or, v_if, bol_b, v_andV, v_orV, v_notV, v_chain, v_lst, v_tup, szR_0, szR_1, szR_2, szR_3, szR_4, szR_5, szR_6, szR_7, szR_8, szR_9, szR_10, szR_11, szR_12, szR_13, szR_14, v_L, v_mu, v_Q, v_P0, iOf_i, v_P, v_sl, v_meth, v_par, v_ifS, v_set, v_setOw, v_ret, v_drop, v_for, v_lam, oCatL_le, oCatQ_le, oAdd_l, oAdd_t, oMul_l2, oMul_l3, oMul_l4, oMul_l5, Nat.reduceLeDiff, oItems_l, oItems_t, oItems_s, oItemsQ_i, oSl_l, oSl_t, oSl_sc, oTupOf_i, oLstOf_i, oSum_i, oAll_i, oAny_i, oMod_p, oDiv_p, oMul_L, oMul_R, oPow_6, oPow_12, oPow_18, oPow_20, oPow_36, oInt_i, oInt_b, oAbs_i, oLen_l, oLen_t, oLenQ_i, oIx_mu, at_0, at_1, at_2, at_3, at_4, at_5, ix5_0, ix5_1, ix5_2, ix5_3, ix5_4, Int.reduceLT, Int.reduceNeg, Int.reduceAdd, Int.reduceSub, Int.reduceMul, oAdd_i, oSub_i, oNeg_i, oLt_i, oLe_i, oGt_i, oGe_i, oMin_i, oMax_i, oEq_i, oNe_i, oEq_s, oNe_s, oIxQ_i, oIx_l, oIx_t, asB_b, asQ_l, asQ_t, v_var, var_fz, v_app, app_ow, v_ext, ext_ow, v_frzE, frs_ow, frs_fz, v_own, own_fl, own_ft, own_ow, own_sh, lp_nx, lp_ct, lp_bk, lp_rt, lp_exc, lp_bad, lp_ite, ag_some, ag_none, fl_nil, fl_cons, g_N, g_nil, g_cons, g_T, o_some, v_asg, v_try, try_exc, try_nx, try_rt, trE_rt, trE_nx, v_thkE, v_thkR, thk_rv, said_nx, said_rt, v_isE, isE_rv, v_wipeR, v_callL, callL_fn, lkL_some, v_store, may_ow, may_fz, may_t, sto_ow, sto_mu, ixO_s, List.getElem?_cons_succ, List.getElem?_cons_zero, List.set_cons_succ, List.set_cons_zero, startE, List.zipWith, List.replicate, List.length_cons, List.length_nil, List.cons_append, List.nil_append, setE, Nat.reduceSub, Nat.reduceAdd, if_true, if_false, ite_true, ite_false, Bool.not_true, Bool.not_false, Bool.false_eq_true,
             (e_gd (two_six h x hx) s).1]
      cases (x == z) <;> rfl
    · dsimp only [wipeE]
      simp (config := {implicitDefEqProofs := false}) only [b_ok, b_exc, b_bad, b_ite, l_some, l_none, of_ok, of_exc, of_bad, of_ite, sq_nx, sq_rt, sq_bk, sq_ct, sq_exc, sq_bad, sq_ite, fn_nx, fn_rt, fn_exc, fn_bad, fn_ite, v_mkF, v_seq, v_next, v_retN, v_brk, v_cont, v_raise, v_frz, v_bin, v_op1, v_c, v_nil, v_cons, v_consO, v_call, v_test, v_not, v_and, v_or, v_if, bol_b, v_andV, v_orV, v_notV, v_chain, v_lst, v_tup, szR_0, szR_1, szR_2, szR_3, szR_4, szR_5, szR_6, szR_7, szR_8, szR_9, szR_10, szR_11, szR_12, szR_13, szR_14, v_L, v_mu, v_Q, v_P0, iOf_i, v_P, v_sl, v_meth, v_par, v_ifS, v_set, v_setOw, v_ret, v_drop, v_for, v_lam, oCatL_le, oCatQ_le, oAdd_l, oAdd_t, oMul_l2, oMul_l3, oMul_l4, oMul_l5, Nat.reduceLeDiff, oItems_l, oItems_t, oItems_s, oItemsQ_i, oSl_l, oSl_t, oSl_sc, oTupOf_i, oLstOf_i, oSum_i, oAll_i, oAny_i, oMod_p, oDiv_p, oMul_L, oMul_R, oPow_6, oPow_12, oPow_18, oPow_20, oPow_36, oInt_i, oInt_b, oAbs_i, oLen_l, oLen_t, oLenQ_i, oIx_mu, at_0, at_1, at_2, at_3, at_4, at_5, ix5_0, ix5_1, ix5_2, ix5_3, ix5_4, Int.reduceLT, Int.reduceNeg, Int.reduceAdd, Int.reduceSub, Int.reduceMul, oAdd_i, oSub_i, oNeg_i, oLt_i, oLe_i, oGt_i, oGe_i, oMin_i, oMax_i, oEq_i, oNe_i, oEq_s, oNe_s, oIxQ_i, oIx_l, oIx_t, asB_b, asQ_l, asQ_t, v_var, var_fz, v_app, app_ow, v_ext, ext_ow, v_frzE, frs_ow, frs_fz, v_own, own_fl, own_ft, own_ow, own_sh, lp_nx, lp_ct, lp_bk, lp_rt, lp_exc, lp_bad, lp_ite, ag_some, ag_none, fl_nil, fl_cons, g_N, g_nil, g_cons, g_T, o_some, v_asg, v_try, try_exc, try_nx, try_rt, trE_rt, trE_nx, v_thkE, v_thkR, thk_rv, said_nx, said_rt, v_isE, isE_rv, v_wipeR, v_callL, callL_fn, lkL_some, v_store, may_ow, may_fz, may_t, sto_ow, sto_mu, ixO_s, List.getElem?_cons_succ, List.getElem?_cons_zero, List.set_cons_succ, List.set_cons_zero, startE, List.zipWith, List.replicate, List.length_cons, List.length_nil, List.cons_append, List.nil_append, setE, Nat.reduceSub, Nat.reduceAdd, if_true, if_false, ite_true, ite_false, Bool.not_true, Bool.not_false, Bool.false_eq_true]
  · refine comp_map (xs := two z) (f := .str) (s1 := s) (fun x => !(x == z) && gd x) .str (by simp (config := {implicitDefEqProofs := false}) only [b_ok, b_exc, b_bad, b_ite, l_some, l_none, of_ok, of_exc, of_bad, of_ite, sq_nx, sq_rt, sq_bk, sq_ct, sq_exc, sq_bad, sq_ite, fn_nx, fn_rt, fn_exc, fn_bad, fn_ite, v_mkF, v_seq, v_next, v_retN, v_brk, v_cont, v_raise, v_frz, v_bin, v_op1, v_c, v_nil, v_cons, v_consO, v_call, v_test, v_not, v_and, v_or, v_if, bol_b, v_andV, v_orV, v_notV, v_chain, v_lst, v_tup, szR_0, szR_1, szR_2, szR_3, szR_4, szR_5, szR_6, szR_7, szR_8, szR_9, szR_10, szR_11, szR_12, szR_13, szR_14, v_L, v_mu, v_Q, v_P0, iOf_i, v_P, v_sl, v_meth, v_par, v_ifS, v_set, v_setOw, v_ret, v_drop, v_for, v_lam, oCatL_le, oCatQ_le, oAdd_l, oAdd_t, oMul_l2, oMul_l3, oMul_l4, oMul_l5, Nat.reduceLeDiff, oItems_l, oItems_t, oItems_s, oItemsQ_i, oSl_l, oSl_t, oSl_sc, oTupOf_i, oLstOf_i, oSum_i, oAll_i, oAny_i, oMod_p, oDiv_p, oMul_L, oMul_R, oPow_6, oPow_12, oPow_18, oPow_20, oPow_36, oInt_i, oInt_b, oAbs_i, oLen_l, oLen_t, oLenQ_i, oIx_mu, at_0, at_1, at_2, at_3, at_4, at_5, ix5_0, ix5_1, ix5_2, ix5_3, ix5_4, Int.reduceLT, Int.reduceNeg, Int.reduceAdd, Int.reduceSub, Int.reduceMul, oAdd_i, oSub_i, oNeg_i, oLt_i, oLe_i, oGt_i, oGe_i, oMin_i, oMax_i, oEq_i, oNe_i, oEq_s, oNe_s, oIxQ_i, oIx_l, oIx_t, asB_b, asQ_l, asQ_t, v_var, var_fz, v_app, app_ow, v_ext, ext_ow, v_frzE, frs_ow, frs_fz, v_own, own_fl, own_ft, own_ow, own_sh, lp_nx, lp_ct, lp_bk, lp_rt, lp_exc, lp_bad, lp_ite, ag_some, ag_none, fl_nil, fl_cons, g_N, g_nil, g_cons, g_T, o_some, v_asg, v_try, try_exc, try_nx, try_rt, trE_rt, trE_nx, v_thkE, v_thkR, thk_rv, said_nx, said_rt, v_isE, isE_rv, v_wipeR, v_callL, callL_fn, lkL_some, v_store, may_ow, may_fz, may_t, sto_ow, sto_mu, ixO_s, List.getElem?_cons_succ, List.getElem?_cons_zero, List.set_cons_succ, List.set_cons_zero, startE, List.zipWith, List.replicate, List.length_cons, List.length_nil, List.cons_append, List.nil_append, setE, Nat.reduceSub, Nat.reduceAdd, if_true, if_false, ite_true, ite_false, Bool.not_true, Bool.not_false, Bool.false_eq_true]) (show 2 ≤ 1000000 by decide) fun x hx => ⟨_, rfl, ?_, fun _ => ?_⟩
    · dsimp only [wipeE]
      simp (config := {implicitDefEqProofs := false}) only [b_ok, b_exc, b_bad, b_ite, l_some, l_none, of_ok, of_exc, of_bad, of_ite, sq_nx, sq_rt, sq_bk, sq_ct, sq_exc, sq_bad, sq_ite, fn_nx, fn_rt, fn_exc, fn_bad, fn_ite, v_mkF, v_seq, v_next, v_retN, v_brk, v_cont, v_raise, v_frz, v_bin, v_op1, v_c, v_nil, v_cons, v_consO, v_call, v_test, v_not, v_and, v_or, v_if, bol_b, v_andV, v_orV, v_notV, v_chain, v_lst, v_tup, szR_0, szR_1, szR_2, szR_3, szR_4, szR_5, szR_6, szR_7, szR_8, szR_9, szR_10, szR_11, szR_12, szR_13, szR_14, v_L, v_mu, v_Q, v_P0, iOf_i, v_P, v_sl, v_meth, v_par, v_ifS, v_set, v_setOw, v_ret, v_drop, v_for, v_lam, oCatL_le, oCatQ_le, oAdd_l, oAdd_t, oMul_l2, oMul_l3, oMul_l4, oMul_l5, Nat.reduceLeDiff, oItems_l, oItems_t, oItems_s, oItemsQ_i, oSl_l, oSl_t, oSl_sc, oTupOf_i, oLstOf_i, oSum_i, oAll_i, oAny_i, oMod_p, oDiv_p, oMul_L, oMul_R, oPow_6, oPow_12, oPow_18, oPow_20, oPow_36, oInt_i, oInt_b, oAbs_i, oLen_l, oLen_t, oLenQ_i, oIx_mu, at_0, at_1, at_2, at_3, at_4, at_5, ix5_0, ix5_1, ix5_2, ix5_3, ix5_4, Int.reduceLT, Int.reduceNeg, Int.reduceAdd, Int.reduceSub, Int.reduceMul, oAdd_i, oSub_i, oNeg_i, oLt_i, oLe_i, oGt_i, oGe_i, oMin_i, oMax_i, oEq_i, oNe_i, oEq_s, oNe_s, oIxQ_i, oIx_l, oIx_t, asB_b, asQ_l, asQ_t, v_var, var_fz, v_app, app_ow, v_ext, ext_ow, v_frzE, frs_ow, frs_fz, v_own, own_fl, own_ft, own_ow, own_sh, lp_nx, lp_ct, lp_bk, lp_rt, lp_exc, lp_bad, lp_ite, ag_some, ag_none, fl_nil, fl_cons, g_N, g_nil, g_cons, g_T, o_some, v_asg, v_try, try_exc, try_nx, try_rt, trE_rt, trE_nx, v_thkE, v_thkR, thk_rv, said_nx, said_rt, v_isE, isE_rv, v_wipeR, v_callL, callL_fn, lkL_some, v_store, may_ow, may_fz, may_t, sto_ow, sto_mu, ixO_s, List.getElem?_cons_succ, List.getElem?_cons_zero, List.set_cons_succ, List.set_cons_zero, startE, List.zipWith, List.replicate, List.length_cons, List.length_nil, List.cons_append, List.nil_append, setE, Nat.reduceSub, Nat.reduceAdd, if_true, if_false, ite_true, ite_false, Bool.not_true, Bool.not_false, Bool.false_eq_true,
             (e_gd (two_six h x hx) s).2]
      cases (x == z) <;> rfl
    · dsimp only [wipeE]
      simp (config := {implicitDefEqProofs := false}) only [b_ok, b_exc, b_bad, b_ite, l_some, l_none, of_ok, of_exc, of_bad, of_ite, sq_nx, sq_rt, sq_bk, sq_ct, sq_exc, sq_bad, sq_ite, fn_nx, fn_rt, fn_exc, fn_bad, fn_ite, v_mkF, v_seq, v_next, v_retN, v_brk, v_cont, v_raise, v_frz, v_bin, v_op1, v_c, v_nil, v_cons, v_consO, v_call, v_test, v_not, v_and, v_or, v_if, bol_b, v_andV, v_orV, v_notV, v_chain, v_lst, v_tup, szR_0, szR_1, szR_2, szR_3, szR_4, szR_5, szR_6, szR_7, szR_8, szR_9, szR_10, szR_11, szR_12, szR_13, szR_14, v_L, v_mu, v_Q, v_P0, iOf_i, v_P, v_sl, v_meth, v_par, v_ifS, v_set, v_setOw, v_ret, v_drop, v_for, v_lam, oCatL_le, oCatQ_le, oAdd_l, oAdd_t, oMul_l2, oMul_l3, oMul_l4, oMul_l5, Nat.reduceLeDiff, oItems_l, oItems_t, oItems_s, oItemsQ_i, oSl_l, oSl_t, oSl_sc, oTupOf_i, oLstOf_i, oSum_i, oAll_i, oAny_i, oMod_p, oDiv_p, oMul_L, oMul_R, oPow_6, oPow_12, oPow_18, oPow_20, oPow_36, oInt_i, oInt_b, oAbs_i, oLen_l, oLen_t, oLenQ_i, oIx_mu, at_0, at_1, at_2, at_3, at_4, at_5, ix5_0, ix5_1, ix5_2, ix5_3, ix5_4, Int.reduceLT, Int.reduceNeg, Int.reduceAdd, Int.reduceSub, Int.reduceMul, oAdd_i, oSub_i, oNeg_i, oLt_i, oLe_i, oGt_i, oGe_i, oMin_i, oMax_i, oEq_i, oNe_i, oEq_s, oNe_s, oIxQ_i, oIx_l, oIx_t, asB_b, asQ_l, asQ_t, v_var, var_fz, v_app, app_ow, v_ext, ext_ow, v_frzE, frs_ow, frs_fz, v_own, own_fl, own_ft, own_ow, own_sh, lp_nx, lp_ct, lp_bk, lp_rt, lp_exc, lp_bad, lp_ite, ag_some, ag_none, fl_nil, fl_cons, g_N, g_nil, g_cons, g_T, o_some, v_asg, v_try, try_exc, try_nx, try_rt, trE_rt, trE_nx, v_thkE, v_thkR, thk_rv, said_nx, said_rt, v_isE, isE_rv, v_wipeR, v_callL, callL_fn, lkL_some, v_store, may_ow, may_fz, may_t, sto_ow, sto_mu, ixO_s, List.getElem?_cons_succ, List.getElem?_cons_zero, List.set_cons_succ, List.set_cons_zero, startE, List.zipWith, List.replicate, List.length_cons, List.length_nil, List.cons_append, List.nil_append, setE, Nat.reduceSub, Nat.reduceAdd, if_true, if_false, ite_true, ite_false, Bool.not_true, Bool.not_false, Bool.false_eq_true]
theorem oRevS_s {z : Str} {s : S} (k : z.length ≤ 1000000) : oRevS (.str z) s = some (.str (L2.revS z)) := if_pos (Nat.le_trans k (by rw [sizeLine_eq]; decide))
theorem oAdd_s {x y : Str} {s : S} (h : (x ++ y).length ≤ 1000000) : oAdd (.str x) (.str y) s = some (.str (x ++ y)) := by
  have e : oAdd (.str x) (.str y) s = if x.length + y.length ≤ sizeLine then some (.str (x ++ y)) else none := rfl
  rw [e, if_pos]
  rw [strLen_append] at h
  exact Nat.le_trans h (by rw [sizeLine_eq]; decide)
theorem e_turned {z : Str} (h : six z = true) (g : gd z = true) (s : S) : mf_turned_marks [.str z] s = .ok (.tuple ((tnd z).map .str)) s ∧ mf__law_turned [.str z] s = .ok (.tuple ((tnd z).map .str)) s := by
  have hz := six_len h
  have hf : ((two z).filter fun x => !(x == z) && gd x).length ≤ 4000 := Nat.le_trans (List.length_filter_le _ _) (show 2 ≤ 4000 by decide)
  have h2 : (Txt.slice z (some 2) (some 4) ++ Txt.slice z none (some 2) ++ Txt.slice z (some 4) none).length = 6 := six_len (two_six h _ (by unfold two; simp))
  have h1 : (Txt.slice z (some 2) (some 4) ++ Txt.slice z none (some 2)).length ≤ 6 := by rw [strLen_append] at h2; omega
  have q1 := (q_turned h s).1
  have q2 := (q_turned h s).2
  have e2 : (two z).map PyData.str = [.str (L2.revS z), .str (Txt.slice z (some 2) (some 4) ++ Txt.slice z none (some 2) ++ Txt.slice z (some 4) none)] := rfl
  rw [e2] at q1 q2
  refine ⟨?_, ?_⟩
  · unfold mf_turned_marks m_turned_marks
    simp (config := {implicitDefEqProofs := false}) only [b_ok, b_exc, b_bad, b_ite, l_some, l_none, of_ok, of_exc, of_bad, of_ite, sq_nx, sq_rt, sq_bk, sq_ct, sq_exc, sq_bad, sq_ite, fn_nx, fn_rt, fn_exc, fn_bad, fn_ite, v_mkF, v_seq, v_next, v_retN, v_brk, v_cont, v_raise, v_frz, v_bin, v_op1, v_c, v_nil, v_cons, v_consO, v_call, v_test, v_not, v_and, v_or, v_if, bol_b, v_andV, v_orV, v_notV, v_chain, v_lst, v_tup, szR_0, szR_1, szR_2, szR_3, szR_4, szR_5, szR_6, szR_7, szR_8, szR_9, szR_10, szR_11, szR_12, szR_13, szR_14, v_L, v_mu, v_Q, v_P0, iOf_i, v_P, v_sl, v_meth, v_par, v_ifS, v_set, v_setOw, v_ret, v_drop, v_for, v_lam, oCatL_le, oCatQ_le, oAdd_l, oAdd_t, oMul_l2, oMul_l3, oMul_l4, oMul_l5, Nat.reduceLeDiff, oItems_l, oItems_t, oItems_s, oItemsQ_i, oSl_l, oSl_t, oSl_sc, oTupOf_i, oLstOf_i, oSum_i, oAll_i, oAny_i, oMod_p, oDiv_p, oMul_L, oMul_R, oPow_6, oPow_12, oPow_18, oPow_20, oPow_36, oInt_i, oInt_b, oAbs_i, oLen_l, oLen_t, oLenQ_i, oIx_mu, at_0, at_1, at_2, at_3, at_4, at_5, ix5_0, ix5_1, ix5_2, ix5_3, ix5_4, Int.reduceLT, Int.reduceNeg, Int.reduceAdd, Int.reduceSub, Int.reduceMul, oAdd_i, oSub_i, oNeg_i, oLt_i, oLe_i, oGt_i, oGe_i, oMin_i, oMax_i, oEq_i, oNe_i, oEq_s, oNe_s, oIxQ_i, oIx_l, oIx_t, asB_b, asQ_l, asQ_t, v_var, var_fz, v_app, app_ow, v_ext, ext_ow, v_frzE, frs_ow, frs_fz, v_own, own_fl, own_ft, own_ow, own_sh, lp_nx, lp_ct, lp_bk, lp_rt, lp_exc, lp_bad, lp_ite, ag_some, ag_none, fl_nil, fl_cons, g_N, g_nil, g_cons, g_T, o_some, v_asg, v_try, try_exc, try_nx, try_rt, trE_rt, trE_nx, v_thkE, v_thkR, thk_rv, said_nx, said_rt, v_isE, isE_rv, v_wipeR, v_callL, callL_fn, lkL_some, v_store, may_ow, may_fz, may_t, sto_ow, sto_mu, ixO_s, List.getElem?_cons_succ, List.getElem?_cons_zero, List.set_cons_succ, List.set_cons_zero, startE, List.zipWith, List.replicate, List.length_cons, List.length_nil, List.cons_append, List.nil_append, setE, Nat.reduceSub, Nat.reduceAdd, if_true, if_false, ite_true, ite_false, Bool.not_true, Bool.not_false, Bool.false_eq_true,
           (e_check h g s).1, oRevS_s (z := z) (by omega), oSl_s (z := z) (show z.length ≤ 1000000 by omega), oAdd_s (x := Txt.slice z (some 2) (some 4)) (y := Txt.slice z none (some 2)) (by omega), oAdd_s (x := Txt.slice z (some 2) (some 4) ++ Txt.slice z none (some 2)) (y := Txt.slice z (some 4) none) (by omega), q1, oSetOf_s hf, oSortSet_s]
    rfl
  · unfold mf__law_turned m__law_turned
    simp (config := {implicitDefEqProofs := false}) only [b_ok, b_exc, b_bad, b_ite, l_some, l_none, of_ok, of_exc, of_bad, of_ite, sq_nx, sq_rt, sq_bk, sq_ct, sq_exc, sq_bad, sq_ite, fn_nx, fn_rt, fn_exc, fn_bad, fn_ite, v_mkF, v_seq, v_next, v_retN, v_brk, v_cont, v_raise, v_frz, v_bin, v_op1, v_c, v_nil, v_cons, v_consO, v_call, v_test, v_not, v_and, v_or, v_if, bol_b, v_andV, v_orV, v_notV, v_chain, v_lst, v_tup, szR_0, szR_1, szR_2, szR_3, szR_4, szR_5, szR_6, szR_7, szR_8, szR_9, szR_10, szR_11, szR_12, szR_13, szR_14, v_L, v_mu, v_Q, v_P0, iOf_i, v_P, v_sl, v_meth, v_par, v_ifS, v_set, v_setOw, v_ret, v_drop, v_for, v_lam, oCatL_le, oCatQ_le, oAdd_l, oAdd_t, oMul_l2, oMul_l3, oMul_l4, oMul_l5, Nat.reduceLeDiff, oItems_l, oItems_t, oItems_s, oItemsQ_i, oSl_l, oSl_t, oSl_sc, oTupOf_i, oLstOf_i, oSum_i, oAll_i, oAny_i, oMod_p, oDiv_p, oMul_L, oMul_R, oPow_6, oPow_12, oPow_18, oPow_20, oPow_36, oInt_i, oInt_b, oAbs_i, oLen_l, oLen_t, oLenQ_i, oIx_mu, at_0, at_1, at_2, at_3, at_4, at_5, ix5_0, ix5_1, ix5_2, ix5_3, ix5_4, Int.reduceLT, Int.reduceNeg, Int.reduceAdd, Int.reduceSub, Int.reduceMul, oAdd_i, oSub_i, oNeg_i, oLt_i, oLe_i, oGt_i, oGe_i, oMin_i, oMax_i, oEq_i, oNe_i, oEq_s, oNe_s, oIxQ_i, oIx_l, oIx_t, asB_b, asQ_l, asQ_t, v_var, var_fz, v_app, app_ow, v_ext, ext_ow, v_frzE, frs_ow, frs_fz, v_own, own_fl, own_ft, own_ow, own_sh, lp_nx, lp_ct, lp_bk, lp_rt, lp_exc, lp_bad, lp_ite, ag_some, ag_none, fl_nil, fl_cons, g_N, g_nil, g_cons, g_T, o_some, v_asg, v_try, try_exc, try_nx, try_rt, trE_rt, trE_nx, v_thkE, v_thkR, thk_rv, said_nx, said_rt, v_isE, isE_rv, v_wipeR, v_callL, callL_fn, lkL_some, v_store, may_ow, may_fz, may_t, sto_ow, sto_mu, ixO_s, List.getElem?_cons_succ, List.getElem?_cons_zero, List.set_cons_succ, List.set_cons_zero, startE, List.zipWith, List.replicate, List.length_cons, List.length_nil, List.cons_append, List.nil_append, setE, Nat.reduceSub, Nat.reduceAdd, if_true, if_false, ite_true, ite_false, Bool.not_true, Bool.not_false, Bool.false_eq_true,
           oRevS_s (z := z) (by omega), oSl_s (z := z) (show z.length ≤ 1000000 by omega), oAdd_s (x := Txt.slice z (some 2) (some 4)) (y := Txt.slice z none (some 2)) (by omega), oAdd_s (x := Txt.slice z (some 2) (some 4) ++ Txt.slice z none (some 2)) (y := Txt.slice z (some 4) none) (by omega), q2, oSetOf_s hf, oSortSet_s]
    rfl
theorem tnd_ok {z : Str} (h : six z = true) : ∀ x ∈ tnd z, PyData.strOk x = true := fun x hx => by
  unfold tnd at hx
  rw [SetM.mem_ord] at hx
  exact six_ok (two_six h x (List.mem_filter.mp hx).1)
/-! ### steps -/
def st (c d : Nat) : Int := if 10 - (if (c : Int) - d < 0 then -((c : Int) - d) else (c : Int) - d) < (if (c : Int) - d < 0 then -((c : Int) - d) else (c : Int) - d) then 10 - (if (c : Int) - d < 0 then -((c : Int) - d) else (c : Int) - d) else (if (c : Int) - d < 0 then -((c : Int) - d) else (c : Int) - d)
theorem int_dig : ∀ k : Fin 10, intText? ⟨#[48 + k.val]⟩ = some ((k.val : Nat) : Int) := by decide +kernel
theorem oInt_d {c : Nat} (h : dg c) (s : S) : oInt (.str ⟨#[c]⟩) s = some (.int ((c : Int) - 48)) := by
  have e : oInt (.str ⟨#[c]⟩) s = if (⟨#[c]⟩ : Str).length ≤ 640 then (intText? ⟨#[c]⟩).map .int else none := rfl
  have h := h
  unfold dg at h
  have k := int_dig ⟨c - 48, by omega⟩
  rw [show 48 + (⟨c - 48, by omega⟩ : Fin 10).val = c by show 48 + (c - 48) = c; omega] at k
  rw [e, if_pos (show (⟨#[c]⟩ : Str).length ≤ 640 by show 1 ≤ 640; decide), k]
  show some (PyData.int (((c - 48 : Nat)) : Int)) = _
  congr 2
  omega
theorem e_steps_between {c d : Nat} (hc : dg c) (hd : dg d) (s : S) : mf_steps_between [.str ⟨#[c]⟩, .str ⟨#[d]⟩] s = .ok (.int (st c d)) s := by
  unfold mf_steps_between m_steps_between
  have e : (c : Int) - 48 - ((d : Int) - 48) = (c : Int) - d := by omega
  simp (config := {implicitDefEqProofs := false}) only [b_ok, b_exc, b_bad, b_ite, l_some, l_none, of_ok, of_exc, of_bad, of_ite, sq_nx, sq_rt, sq_bk, sq_ct, sq_exc, sq_bad, sq_ite, fn_nx, fn_rt, fn_exc, fn_bad, fn_ite, v_mkF, v_seq, v_next, v_retN, v_brk, v_cont, v_raise, v_frz, v_bin, v_op1, v_c, v_nil, v_cons, v_consO, v_call, v_test, v_not, v_and, v_or, v_if, bol_b, v_andV, v_orV, v_notV, v_chain, v_lst, v_tup, szR_0, szR_1, szR_2, szR_3, szR_4, szR_5, szR_6, szR_7, szR_8, szR_9, szR_10, szR_11, szR_12, szR_13, szR_14, v_L, v_mu, v_Q, v_P0, iOf_i, v_P, v_sl, v_meth, v_par, v_ifS, v_set, v_setOw, v_ret, v_drop, v_for, v_lam, oCatL_le, oCatQ_le, oAdd_l, oAdd_t, oMul_l2, oMul_l3, oMul_l4, oMul_l5, Nat.reduceLeDiff, oItems_l, oItems_t, oItems_s, oItemsQ_i, oSl_l, oSl_t, oSl_sc, oTupOf_i, oLstOf_i, oSum_i, oAll_i, oAny_i, oMod_p, oDiv_p, oMul_L, oMul_R, oPow_6, oPow_12, oPow_18, oPow_20, oPow_36, oInt_i, oInt_b, oAbs_i, oLen_l, oLen_t, oLenQ_i, oIx_mu, at_0, at_1, at_2, at_3, at_4, at_5, ix5_0, ix5_1, ix5_2, ix5_3, ix5_4, Int.reduceLT, Int.reduceNeg, Int.reduceAdd, Int.reduceSub, Int.reduceMul, oAdd_i, oSub_i, oNeg_i, oLt_i, oLe_i, oGt_i, oGe_i, oMin_i, oMax_i, oEq_i, oNe_i, oEq_s, oNe_s, oIxQ_i, oIx_l, oIx_t, asB_b, asQ_l, asQ_t, v_var, var_fz, v_app, app_ow, v_ext, ext_ow, v_frzE, frs_ow, frs_fz, v_own, own_fl, own_ft, own_ow, own_sh, lp_nx, lp_ct, lp_bk, lp_rt, lp_exc, lp_bad, lp_ite, ag_some, ag_none, fl_nil, fl_cons, g_N, g_nil, g_cons, g_T, o_some, v_asg, v_try, try_exc, try_nx, try_rt, trE_rt, trE_nx, v_thkE, v_thkR, thk_rv, said_nx, said_rt, v_isE, isE_rv, v_wipeR, v_callL, callL_fn, lkL_some, v_store, may_ow, may_fz, may_t, sto_ow, sto_mu, ixO_s, List.getElem?_cons_succ, List.getElem?_cons_zero, List.set_cons_succ, List.set_cons_zero, startE, List.zipWith, List.replicate, List.length_cons, List.length_nil, List.cons_append, List.nil_append, setE, Nat.reduceSub, Nat.reduceAdd, if_true, if_false, ite_true, ite_false, Bool.not_true, Bool.not_false, Bool.false_eq_true,
         oInt_d hc, oInt_d hd, e]
  rfl
def tn (z w : Str) : Int := ((z.cps.toList.zip w.cps.toList).map fun p => st p.1 p.2).sum
theorem zip_signs (z w : Str) : zipD (signsD z) (signsD w) = (z.cps.toList.zip w.cps.toList).map fun p => PyData.tuple [.str ⟨#[p.1]⟩, .str ⟨#[p.2]⟩] := zipD_map (f := fun c => PyData.str ⟨#[c]⟩) (g := fun c => PyData.str ⟨#[c]⟩) _ _
theorem six_dg {z : Str} (h : six z = true) : ∀ c ∈ z.cps.toList, dg c := by
  obtain ⟨a, b, c, d, e, f, rfl, k⟩ := six_ex h
  exact k
theorem zip_dg {z w : Str} (h : six z = true) (h' : six w = true) : ∀ p ∈ z.cps.toList.zip w.cps.toList, dg p.1 ∧ dg p.2 := fun p hp => by
  obtain ⟨a, b⟩ := p
  have := List.of_mem_zip hp
  exact ⟨six_dg h a this.1, six_dg h' b this.2⟩
theorem zip_len {z w : Str} (h : six z = true) : (z.cps.toList.zip w.cps.toList).length ≤ 6 := by
  rw [List.length_zip]
  obtain ⟨a, b, c, d, e, f, rfl, k⟩ := six_ex h
  exact Nat.min_le_left _ _
theorem e_turns {z w : Str} (h : six z = true) (g : gd z = true) (h' : six w = true) (g' : gd w = true) (s : S) : mf_fewest_turns [.str z, .str w] s = .ok (.int (tn z w)) s := by
  have e : ∀ xs : List (Nat × Nat), xs.filter (fun _ => true) = xs := fun xs => List.filter_eq_self.mpr fun _ _ => rfl
  have hq : q_fewest_turns_1 [.fz (.str z), .fz (.str w), .un, .un] s = .ok (((z.cps.toList.zip w.cps.toList).filter fun _ => true).map fun p => .int (st p.1 p.2)) s := by
    refine comp_map (xs := z.cps.toList.zip w.cps.toList) (f := fun p => PyData.tuple [.str ⟨#[p.1]⟩, .str ⟨#[p.2]⟩]) (s1 := s) (fun _ => true) _ ?_ (by have := zip_len (w := w) h; omega) fun p hp => ⟨_, rfl, rfl, fun _ => ?_⟩
    · simp (config := {implicitDefEqProofs := false}) only [b_ok, b_exc, b_bad, b_ite, l_some, l_none, of_ok, of_exc, of_bad, of_ite, sq_nx, sq_rt, sq_bk, sq_ct, sq_exc, sq_bad, sq_ite, fn_nx, fn_rt, fn_exc, fn_bad, fn_ite, v_mkF, v_seq, v_next, v_retN, v_brk, v_cont, v_raise, v_frz, v_bin, v_op1, v_c, v_nil, v_cons, v_consO, v_call, v_test, v_not, v_and, v_or, v_if, bol_b, v_andV, v_orV, v_notV, v_chain, v_lst, v_tup, szR_0, szR_1, szR_2, szR_3, szR_4, szR_5, szR_6, szR_7, szR_8, szR_9, szR_10, szR_11, szR_12, szR_13, szR_14, v_L, v_mu, v_Q, v_P0, iOf_i, v_P, v_sl, v_meth, v_par, v_ifS, v_set, v_setOw, v_ret, v_drop, v_for, v_lam, oCatL_le, oCatQ_le, oAdd_l, oAdd_t, oMul_l2, oMul_l3, oMul_l4, oMul_l5, Nat.reduceLeDiff, oItems_l, oItems_t, oItems_s, oItemsQ_i, oSl_l, oSl_t, oSl_sc, oTupOf_i, oLstOf_i, oSum_i, oAll_i, oAny_i, oMod_p, oDiv_p, oMul_L, oMul_R, oPow_6, oPow_12, oPow_18, oPow_20, oPow_36, oInt_i, oInt_b, oAbs_i, oLen_l, oLen_t, oLenQ_i, oIx_mu, at_0, at_1, at_2, at_3, at_4, at_5, ix5_0, ix5_1, ix5_2, ix5_3, ix5_4, Int.reduceLT, Int.reduceNeg, Int.reduceAdd, Int.reduceSub, Int.reduceMul, oAdd_i, oSub_i, oNeg_i, oLt_i, oLe_i, oGt_i, oGe_i, oMin_i, oMax_i, oEq_i, oNe_i, oEq_s, oNe_s, oIxQ_i, oIx_l, oIx_t, asB_b, asQ_l, asQ_t, v_var, var_fz, v_app, app_ow, v_ext, ext_ow, v_frzE, frs_ow, frs_fz, v_own, own_fl, own_ft, own_ow, own_sh, lp_nx, lp_ct, lp_bk, lp_rt, lp_exc, lp_bad, lp_ite, ag_some, ag_none, fl_nil, fl_cons, g_N, g_nil, g_cons, g_T, o_some, v_asg, v_try, try_exc, try_nx, try_rt, trE_rt, trE_nx, v_thkE, v_thkR, thk_rv, said_nx, said_rt, v_isE, isE_rv, v_wipeR, v_callL, callL_fn, lkL_some, v_store, may_ow, may_fz, may_t, sto_ow, sto_mu, ixO_s, List.getElem?_cons_succ, List.getElem?_cons_zero, List.set_cons_succ, List.set_cons_zero, startE, List.zipWith, List.replicate, List.length_cons, List.length_nil, List.cons_append, List.nil_append, setE, Nat.reduceSub, Nat.reduceAdd, if_true, if_false, ite_true, ite_false, Bool.not_true, Bool.not_false, Bool.false_eq_true,
             v_src, oZipS_i, zip_signs]
    · obtain ⟨d1, d2⟩ := zip_dg h h' p hp
      dsimp only [wipeE]
      simp (config := {implicitDefEqProofs := false}) only [b_ok, b_exc, b_bad, b_ite, l_some, l_none, of_ok, of_exc, of_bad, of_ite, sq_nx, sq_rt, sq_bk, sq_ct, sq_exc, sq_bad, sq_ite, fn_nx, fn_rt, fn_exc, fn_bad, fn_ite, v_mkF, v_seq, v_next, v_retN, v_brk, v_cont, v_raise, v_frz, v_bin, v_op1, v_c, v_nil, v_cons, v_consO, v_call, v_test, v_not, v_and, v_or, v_if, bol_b, v_andV, v_orV, v_notV, v_chain, v_lst, v_tup, szR_0, szR_1, szR_2, szR_3, szR_4, szR_5, szR_6, szR_7, szR_8, szR_9, szR_10, szR_11, szR_12, szR_13, szR_14, v_L, v_mu, v_Q, v_P0, iOf_i, v_P, v_sl, v_meth, v_par, v_ifS, v_set, v_setOw, v_ret, v_drop, v_for, v_lam, oCatL_le, oCatQ_le, oAdd_l, oAdd_t, oMul_l2, oMul_l3, oMul_l4, oMul_l5, Nat.reduceLeDiff, oItems_l, oItems_t, oItems_s, oItemsQ_i, oSl_l, oSl_t, oSl_sc, oTupOf_i, oLstOf_i, oSum_i, oAll_i, oAny_i, oMod_p, oDiv_p, oMul_L, oMul_R, oPow_6, oPow_12, oPow_18, oPow_20, oPow_36, oInt_i, oInt_b, oAbs_i, oLen_l, oLen_t, oLenQ_i, oIx_mu, at_0, at_1, at_2, at_3, at_4, at_5, ix5_0, ix5_1, ix5_2, ix5_3, ix5_4, Int.reduceLT, Int.reduceNeg, Int.reduceAdd, Int.reduceSub, Int.reduceMul, oAdd_i, oSub_i, oNeg_i, oLt_i, oLe_i, oGt_i, oGe_i, oMin_i, oMax_i, oEq_i, oNe_i, oEq_s, oNe_s, oIxQ_i, oIx_l, oIx_t, asB_b, asQ_l, asQ_t, v_var, var_fz, v_app, app_ow, v_ext, ext_ow, v_frzE, frs_ow, frs_fz, v_own, own_fl, own_ft, own_ow, own_sh, lp_nx, lp_ct, lp_bk, lp_rt, lp_exc, lp_bad, lp_ite, ag_some, ag_none, fl_nil, fl_cons, g_N, g_nil, g_cons, g_T, o_some, v_asg, v_try, try_exc, try_nx, try_rt, trE_rt, trE_nx, v_thkE, v_thkR, thk_rv, said_nx, said_rt, v_isE, isE_rv, v_wipeR, v_callL, callL_fn, lkL_some, v_store, may_ow, may_fz, may_t, sto_ow, sto_mu, ixO_s, List.getElem?_cons_succ, List.getElem?_cons_zero, List.set_cons_succ, List.set_cons_zero, startE, List.zipWith, List.replicate, List.length_cons, List.length_nil, List.cons_append, List.nil_append, setE, Nat.reduceSub, Nat.reduceAdd, if_true, if_false, ite_true, ite_false, Bool.not_true, Bool.not_false, Bool.false_eq_true,
             e_steps_between d1 d2]
  rw [e] at hq
  have em : ((z.cps.toList.zip w.cps.toList).map fun p => PyData.int (st p.1 p.2)) = ((z.cps.toList.zip w.cps.toList).map fun p => st p.1 p.2).map .int := by rw [List.map_map]; rfl
  rw [em] at hq
  unfold mf_fewest_turns m_fewest_turns
  simp (config := {implicitDefEqProofs := false}) only [b_ok, b_exc, b_bad, b_ite, l_some, l_none, of_ok, of_exc, of_bad, of_ite, sq_nx, sq_rt, sq_bk, sq_ct, sq_exc, sq_bad, sq_ite, fn_nx, fn_rt, fn_exc, fn_bad, fn_ite, v_mkF, v_seq, v_next, v_retN, v_brk, v_cont, v_raise, v_frz, v_bin, v_op1, v_c, v_nil, v_cons, v_consO, v_call, v_test, v_not, v_and, v_or, v_if, bol_b, v_andV, v_orV, v_notV, v_chain, v_lst, v_tup, szR_0, szR_1, szR_2, szR_3, szR_4, szR_5, szR_6, szR_7, szR_8, szR_9, szR_10, szR_11, szR_12, szR_13, szR_14, v_L, v_mu, v_Q, v_P0, iOf_i, v_P, v_sl, v_meth, v_par, v_ifS, v_set, v_setOw, v_ret, v_drop, v_for, v_lam, oCatL_le, oCatQ_le, oAdd_l, oAdd_t, oMul_l2, oMul_l3, oMul_l4, oMul_l5, Nat.reduceLeDiff, oItems_l, oItems_t, oItems_s, oItemsQ_i, oSl_l, oSl_t, oSl_sc, oTupOf_i, oLstOf_i, oSum_i, oAll_i, oAny_i, oMod_p, oDiv_p, oMul_L, oMul_R, oPow_6, oPow_12, oPow_18, oPow_20, oPow_36, oInt_i, oInt_b, oAbs_i, oLen_l, oLen_t, oLenQ_i, oIx_mu, at_0, at_1, at_2, at_3, at_4, at_5, ix5_0, ix5_1, ix5_2, ix5_3, ix5_4, Int.reduceLT, Int.reduceNeg, Int.reduceAdd, Int.reduceSub, Int.reduceMul, oAdd_i, oSub_i, oNeg_i, oLt_i, oLe_i, oGt_i, oGe_i, oMin_i, oMax_i, oEq_i, oNe_i, oEq_s, oNe_s, oIxQ_i, oIx_l, oIx_t, asB_b, asQ_l, asQ_t, v_var, var_fz, v_app, app_ow, v_ext, ext_ow, v_frzE, frs_ow, frs_fz, v_own, own_fl, own_ft, own_ow, own_sh, lp_nx, lp_ct, lp_bk, lp_rt, lp_exc, lp_bad, lp_ite, ag_some, ag_none, fl_nil, fl_cons, g_N, g_nil, g_cons, g_T, o_some, v_asg, v_try, try_exc, try_nx, try_rt, trE_rt, trE_nx, v_thkE, v_thkR, thk_rv, said_nx, said_rt, v_isE, isE_rv, v_wipeR, v_callL, callL_fn, lkL_some, v_store, may_ow, may_fz, may_t, sto_ow, sto_mu, ixO_s, List.getElem?_cons_succ, List.getElem?_cons_zero, List.set_cons_succ, List.set_cons_zero, startE, List.zipWith, List.replicate, List.length_cons, List.length_nil, List.cons_append, List.nil_append, setE, Nat.reduceSub, Nat.reduceAdd, if_true, if_false, ite_true, ite_false, Bool.not_true, Bool.not_false, Bool.false_eq_true,
         (e_check h g s).1, (e_check h' g' s).1, hq]
  rfl
theorem e_law_steps {z w : Str} (h : six z = true) (h' : six w = true) (s : S) : mf__law_steps [.str z, .str w] s = .ok (.int (tn z w)) s := by
  obtain ⟨env', s', k1, k2⟩ := for_map (asg := gT (gsCons (gN 3) (gsCons (gN 4) gsNil))) (body := b__law_steps_1) (xs := z.cps.toList.zip w.cps.toList) (f := fun p => PyData.tuple [.str ⟨#[p.1]⟩, .str ⟨#[p.2]⟩])
    (fun i env s' => s' = s ∧ ∃ x3 x4 x5, env = [.fz (.str z), .fz (.str w), .fz (.int ((((z.cps.toList.zip w.cps.toList).map fun p => st p.1 p.2).take i).sum)), x3, x4, x5]) (env := [.fz (.str z), .fz (.str w), .fz (.int 0), .un, .un, .un]) (s := s) ⟨rfl, _, _, _, rfl⟩ (fun i p env s' hp hI => by
      obtain ⟨rfl, x3, x4, x5, rfl⟩ := hI
      obtain ⟨d1, d2⟩ := zip_dg h h' p (List.mem_of_getElem? hp)
      have ed : (p.1 : Int) - 48 - ((p.2 : Int) - 48) = (p.1 : Int) - p.2 := by omega
      refine ⟨_, _, s', rfl, ?_, rfl, .fz (.str ⟨#[p.1]⟩), .fz (.str ⟨#[p.2]⟩), .fz (.int (if (p.1 : Int) - p.2 < 0 then -((p.1 : Int) - p.2) else (p.1 : Int) - p.2)), rfl⟩
      unfold b__law_steps_1
      rw [List.take_add_one, List.getElem?_map, hp]
      simp only [Option.map_some, Option.toList_some, List.sum_append, List.sum_cons, List.sum_nil, Int.add_zero]
      simp (config := {implicitDefEqProofs := false}) only [b_ok, b_exc, b_bad, b_ite, l_some, l_none, of_ok, of_exc, of_bad, of_ite, sq_nx, sq_rt, sq_bk, sq_ct, sq_exc, sq_bad, sq_ite, fn_nx, fn_rt, fn_exc, fn_bad, fn_ite, v_mkF, v_seq, v_next, v_retN, v_brk, v_cont, v_raise, v_frz, v_bin, v_op1, v_c, v_nil, v_cons, v_consO, v_call, v_test, v_not, v_and, v_or, v_if, bol_b, v_andV, v_orV, v_notV, v_chain, v_lst, v_tup, szR_0, szR_1, szR_2, szR_3, szR_4, szR_5, szR_6, szR_7, szR_8, szR_9, szR_10, szR_11, szR_12, szR_13, szR_14, v_L, v_mu, v_Q, v_P0, iOf_i, v_P, v_sl, v_meth, v_par, v_ifS, v_set, v_setOw, v_ret, v_drop, v_for, v_lam, oCatL_le, oCatQ_le, oAdd_l, oAdd_t, oMul_l2, oMul_l3, oMul_l4, oMul_l5, Nat.reduceLeDiff, oItems_l, oItems_t, oItems_s, oItemsQ_i, oSl_l, oSl_t, oSl_sc, oTupOf_i, oLstOf_i, oSum_i, oAll_i, oAny_i, oMod_p, oDiv_p, oMul_L, oMul_R, oPow_6, oPow_12, oPow_18, oPow_20, oPow_36, oInt_i, oInt_b, oAbs_i, oLen_l, oLen_t, oLenQ_i, oIx_mu, at_0, at_1, at_2, at_3, at_4, at_5, ix5_0, ix5_1, ix5_2, ix5_3, ix5_4, Int.reduceLT, Int.reduceNeg, Int.reduceAdd, Int.reduceSub, Int.reduceMul, oAdd_i, oSub_i, oNeg_i, oLt_i, oLe_i, oGt_i, oGe_i, oMin_i, oMax_i, oEq_i, oNe_i, oEq_s, oNe_s, oIxQ_i, oIx_l, oIx_t, asB_b, asQ_l, asQ_t, v_var, var_fz, v_app, app_ow, v_ext, ext_ow, v_frzE, frs_ow, frs_fz, v_own, own_fl, own_ft, own_ow, own_sh, lp_nx, lp_ct, lp_bk, lp_rt, lp_exc, lp_bad, lp_ite, ag_some, ag_none, fl_nil, fl_cons, g_N, g_nil, g_cons, g_T, o_some, v_asg, v_try, try_exc, try_nx, try_rt, trE_rt, trE_nx, v_thkE, v_thkR, thk_rv, said_nx, said_rt, v_isE, isE_rv, v_wipeR, v_callL, callL_fn, lkL_some, v_store, may_ow, may_fz, may_t, sto_ow, sto_mu, ixO_s, List.getElem?_cons_succ, List.getElem?_cons_zero, List.set_cons_succ, List.set_cons_zero, startE, List.zipWith, List.replicate, List.length_cons, List.length_nil, List.cons_append, List.nil_append, setE, Nat.reduceSub, Nat.reduceAdd, if_true, if_false, ite_true, ite_false, Bool.not_true, Bool.not_false, Bool.false_eq_true,
             oInt_d d1, oInt_d d2, ed]
      rfl)
  obtain ⟨rfl, x3, x4, x5, rfl⟩ := k2
  rw [List.take_of_length_le (by rw [List.length_map]; exact Nat.le_refl _)] at k1
  unfold mf__law_steps m__law_steps
  simp (config := {implicitDefEqProofs := false}) only [b_ok, b_exc, b_bad, b_ite, l_some, l_none, of_ok, of_exc, of_bad, of_ite, sq_nx, sq_rt, sq_bk, sq_ct, sq_exc, sq_bad, sq_ite, fn_nx, fn_rt, fn_exc, fn_bad, fn_ite, v_mkF, v_seq, v_next, v_retN, v_brk, v_cont, v_raise, v_frz, v_bin, v_op1, v_c, v_nil, v_cons, v_consO, v_call, v_test, v_not, v_and, v_or, v_if, bol_b, v_andV, v_orV, v_notV, v_chain, v_lst, v_tup, szR_0, szR_1, szR_2, szR_3, szR_4, szR_5, szR_6, szR_7, szR_8, szR_9, szR_10, szR_11, szR_12, szR_13, szR_14, v_L, v_mu, v_Q, v_P0, iOf_i, v_P, v_sl, v_meth, v_par, v_ifS, v_set, v_setOw, v_ret, v_drop, v_for, v_lam, oCatL_le, oCatQ_le, oAdd_l, oAdd_t, oMul_l2, oMul_l3, oMul_l4, oMul_l5, Nat.reduceLeDiff, oItems_l, oItems_t, oItems_s, oItemsQ_i, oSl_l, oSl_t, oSl_sc, oTupOf_i, oLstOf_i, oSum_i, oAll_i, oAny_i, oMod_p, oDiv_p, oMul_L, oMul_R, oPow_6, oPow_12, oPow_18, oPow_20, oPow_36, oInt_i, oInt_b, oAbs_i, oLen_l, oLen_t, oLenQ_i, oIx_mu, at_0, at_1, at_2, at_3, at_4, at_5, ix5_0, ix5_1, ix5_2, ix5_3, ix5_4, Int.reduceLT, Int.reduceNeg, Int.reduceAdd, Int.reduceSub, Int.reduceMul, oAdd_i, oSub_i, oNeg_i, oLt_i, oLe_i, oGt_i, oGe_i, oMin_i, oMax_i, oEq_i, oNe_i, oEq_s, oNe_s, oIxQ_i, oIx_l, oIx_t, asB_b, asQ_l, asQ_t, v_var, var_fz, v_app, app_ow, v_ext, ext_ow, v_frzE, frs_ow, frs_fz, v_own, own_fl, own_ft, own_ow, own_sh, lp_nx, lp_ct, lp_bk, lp_rt, lp_exc, lp_bad, lp_ite, ag_some, ag_none, fl_nil, fl_cons, g_N, g_nil, g_cons, g_T, o_some, v_asg, v_try, try_exc, try_nx, try_rt, trE_rt, trE_nx, v_thkE, v_thkR, thk_rv, said_nx, said_rt, v_isE, isE_rv, v_wipeR, v_callL, callL_fn, lkL_some, v_store, may_ow, may_fz, may_t, sto_ow, sto_mu, ixO_s, List.getElem?_cons_succ, List.getElem?_cons_zero, List.set_cons_succ, List.set_cons_zero, startE, List.zipWith, List.replicate, List.length_cons, List.length_nil, List.cons_append, List.nil_append, setE, Nat.reduceSub, Nat.reduceAdd, if_true, if_false, ite_true, ite_false, Bool.not_true, Bool.not_false, Bool.false_eq_true,
         v_src, oZipS_i, zip_signs, k1]
  rfl
theorem st_tri {a b c : Nat} (ha : dg a) (hb : dg b) (hc : dg c) : st a c ≤ st a b + st b c ∧ st a b = st b a ∧ st a a = 0 := by
  unfold dg at *
  unfold st
  refine ⟨?_, ?_, ?_⟩
  · (repeat' split) <;> omega
  · (repeat' split) <;> omega
  · (repeat' split) <;> omega
theorem tn6 (a b c d e f a' b' c' d' e' f' : Nat) : tn (s6 a b c d e f) (s6 a' b' c' d' e' f') = st a a' + (st b b' + (st c c' + (st d d' + (st e e' + (st f f' + 0))))) := rfl
theorem tn_facts {z w u : Str} (h : six z = true) (h' : six w = true) (h'' : six u = true) : tn z w ≤ tn z u + tn u w ∧ tn w z = tn z w ∧ tn z z = 0 := by
  obtain ⟨a1, b1, c1, d1, e1, f1, rfl, k1⟩ := six_ex h
  obtain ⟨a2, b2, c2, d2, e2, f2, rfl, k2⟩ := six_ex h'
  obtain ⟨a3, b3, c3, d3, e3, f3, rfl, k3⟩ := six_ex h''
  rw [tn6, tn6, tn6, tn6, tn6]
  have A := st_tri (k1 a1 (by simp)) (k3 a3 (by simp)) (k2 a2 (by simp))
  have B := st_tri (k1 b1 (by simp)) (k3 b3 (by simp)) (k2 b2 (by simp))
  have C := st_tri (k1 c1 (by simp)) (k3 c3 (by simp)) (k2 c2 (by simp))
  have E := st_tri (k1 d1 (by simp)) (k3 d3 (by simp)) (k2 d2 (by simp))
  have F := st_tri (k1 e1 (by simp)) (k3 e3 (by simp)) (k2 e2 (by simp))
  have G := st_tri (k1 f1 (by simp)) (k3 f3 (by simp)) (k2 f2 (by simp))
  have A' := (st_tri (k1 a1 (by simp)) (k2 a2 (by simp)) (k2 a2 (by simp))).2.1
  have B' := (st_tri (k1 b1 (by simp)) (k2 b2 (by simp)) (k2 b2 (by simp))).2.1
  have C' := (st_tri (k1 c1 (by simp)) (k2 c2 (by simp)) (k2 c2 (by simp))).2.1
  have E' := (st_tri (k1 d1 (by simp)) (k2 d2 (by simp)) (k2 d2 (by simp))).2.1
  have F' := (st_tri (k1 e1 (by simp)) (k2 e2 (by simp)) (k2 e2 (by simp))).2.1
  have G' := (st_tri (k1 f1 (by simp)) (k2 f2 (by simp)) (k2 f2 (by simp))).2.1
  omega
end K76

set_option Elab.async false
set_option maxRecDepth 100000
set_option maxHeartbeats 1000000
set_option linter.all false
namespace K76
open PySem Dn
/-! ### worn places -/
def put (z : Str) (p k : Nat) : Str := Txt.slice z none (some (p : Int)) ++ ⟨#[48 + k]⟩ ++ Txt.slice z (some ((p : Int) + 1)) none
theorem put_s6 (a b c d e f k : Nat) : put (s6 a b c d e f) 0 k = s6 (48 + k) b c d e f ∧ put (s6 a b c d e f) 1 k = s6 a (48 + k) c d e f ∧ put (s6 a b c d e f) 2 k = s6 a b (48 + k) d e f ∧ put (s6 a b c d e f) 3 k = s6 a b c (48 + k) e f ∧ put (s6 a b c d e f) 4 k = s6 a b c d (48 + k) f ∧ put (s6 a b c d e f) 5 k = s6 a b c d e (48 + k) := by
  refine ⟨?_, ?_, ?_, ?_, ?_, ?_⟩ <;> kernel_rfl
theorem put_six {z : Str} (h : six z = true) {p k : Nat} (hp : p < 6) (hk : k < 10) : six (put z p k) = true := by
  obtain ⟨a, b, c, d, e, f, rfl, g⟩ := six_ex h
  obtain ⟨p0, p1, p2, p3, p4, p5⟩ := put_s6 a b c d e f k
  have hd : dg (48 + k) := by unfold dg; omega
  simp only [List.mem_cons, List.mem_nil_iff, or_false] at g
  have hp : p = 0 ∨ p = 1 ∨ p = 2 ∨ p = 3 ∨ p = 4 ∨ p = 5 := by omega
  rcases hp with rfl | rfl | rfl | rfl | rfl | rfl
  · rw [p0]; refine six_of fun x hx => ?_
    simp only [List.mem_cons, List.mem_nil_iff, or_false] at hx
    rcases hx with rfl | hx
    · exact hd
    · exact g x (by omega)
  · rw [p1]; refine six_of fun x hx => ?_
    simp only [List.mem_cons, List.mem_nil_iff, or_false] at hx
    rcases hx with hx | rfl | hx
    · exact g x (by omega)
    · exact hd
    · exact g x (by omega)
  · rw [p2]; refine six_of fun x hx => ?_
    simp only [List.mem_cons, List.mem_nil_iff, or_false] at hx
    rcases hx with hx | hx | rfl | hx
    · exact g x (by omega)
    · exact g x (by omega)
    · exact hd
    · exact g x (by omega)
  · rw [p3]; refine six_of fun x hx => ?_
    simp only [List.mem_cons, List.mem_nil_iff, or_false] at hx
    rcases hx with hx | hx | hx | rfl | hx
    · exact g x (by omega)
    · exact g x (by omega)
    · exact g x (by omega)
    · exact hd
    · exact g x (by omega)
  · rw [p4]; refine six_of fun x hx => ?_
    simp only [List.mem_cons, List.mem_nil_iff, or_false] at hx
    rcases hx with hx | hx | hx | hx | rfl | hx
    · exact g x (by omega)
    · exact g x (by omega)
    · exact g x (by omega)
    · exact g x (by omega)
    · exact hd
    · exact g x (by omega)
  · rw [p5]; refine six_of fun x hx => ?_
    simp only [List.mem_cons, List.mem_nil_iff, or_false] at hx
    rcases hx with hx | hx | hx | hx | hx | rfl
    · exact g x (by omega)
    · exact g x (by omega)
    · exact g x (by omega)
    · exact g x (by omega)
    · exact g x (by omega)
    · exact hd
def grow (L : List Str) (p : Nat) : List Str := L.flatMap fun z => (List.range 10).map fun k => put z p k
def all6 (L : List Str) : Prop := ∀ z ∈ L, six z = true
theorem grow_six {L : List Str} (h : all6 L) {p : Nat} (hp : p < 6) : all6 (grow L p) := fun x hx => by
  unfold grow at hx
  obtain ⟨z, hz, hx⟩ := List.mem_flatMap.mp hx
  obtain ⟨k, hk, rfl⟩ := List.mem_map.mp hx
  exact put_six (h z hz) hp (by simpa using hk)
theorem grow_len (p : Nat) : ∀ L : List Str, (grow L p).length = L.length * 10
  | [] => rfl
  | z :: L => by
    have := grow_len p L
    unfold grow at this ⊢
    rw [List.flatMap_cons, List.length_append, this, List.length_map, List.length_range, List.length_cons]
    omega
theorem str_dig : ∀ k : Fin 10, oStr (.int ((k.val : Nat) : Int)) [] = some (.str ⟨#[48 + k.val]⟩) := by
  have : ∀ k : Fin 10, strOf (.int ((k.val : Nat) : Int)) = some ⟨#[48 + k.val]⟩ := by decide +kernel
  intro k
  unfold oStr
  rw [this k]
  rfl
theorem oStr_d {k : Nat} (h : k < 10) (s : S) : oStr (.int (k : Int)) s = some (.str ⟨#[48 + k]⟩) := str_dig ⟨k, h⟩
theorem put_len {z : Str} (h : six z = true) {p k : Nat} (hp : p < 6) (hk : k < 10) : (Txt.slice z none (some (p : Int)) ++ ⟨#[48 + k]⟩ ++ Txt.slice z (some ((p : Int) + 1)) none).length ≤ 6 ∧ (Txt.slice z none (some (p : Int)) ++ ⟨#[48 + k]⟩).length ≤ 6 := by
  have := six_len (put_six h hp hk)
  unfold put at this
  have h2 := this
  rw [strLen_append] at h2
  omega
theorem q_worn {L : List Str} (h : all6 L) (hl : L.length ≤ 100) {p : Nat} (hp : p < 6) (s : S) (x0 x1 x4 x5 : Sl) : q_worn_1 [x0, x1, .fz (.list (L.map .str)), .fz (.int p), x4, x5] s = .ok ((grow L p).map .str) s := by
  have e : ∀ {α : Type} (xs : List α), xs.filter (fun _ => true) = xs := fun xs => List.filter_eq_self.mpr fun _ _ => rfl
  have hr : oRng1 (.int 10) s = some ((List.range 10).map fun i : Nat => .int (0 + (i : Int))) := rng1_n (n := 10) (by omega)
  have := comp2_map (src := mOp1 oItems (mVar 2)) (src1 := mOp1 oRng1 (mC (.int 10))) (vs := [4, 5]) (vs1 := [5]) (asg := gN 4) (asg1 := gN 5) (test := mTrue) (test1 := mTrue) (elt := mBin oAdd (mBin oAdd (mSl oSl (mVar 4) (mP0) (mP (mVar 3))) (mOp1 oStr (mVar 5))) (mSl oSl (mVar 4) (mP (mBin oAdd (mVar 3) (mC (.int 1)))) (mP0)))
    (env := [x0, x1, .fz (.list (L.map .str)), .fz (.int p), x4, x5]) (s := s) (s1 := s) (xs := L) (f := .str) (ys := fun _ => List.range 10) (g := fun i : Nat => .int (0 + (i : Int))) 10 (fun _ => true) (fun _ _ => true) (fun z k => .str (put z p k)) (by simp (config := {implicitDefEqProofs := false}) only [b_ok, b_exc, b_bad, b_ite, l_some, l_none, of_ok, of_exc, of_bad, of_ite, sq_nx, sq_rt, sq_bk, sq_ct, sq_exc, sq_bad, sq_ite, fn_nx, fn_rt, fn_exc, fn_bad, fn_ite, v_mkF, v_seq, v_next, v_retN, v_brk, v_cont, v_raise, v_frz, v_bin, v_op1, v_c, v_nil, v_cons, v_consO, v_call, v_test, v_not, v_and, v_or, v_if, bol_b, v_andV, v_orV, v_notV, v_chain, v_lst, v_tup, szR_0, szR_1, szR_2, szR_3, szR_4, szR_5, szR_6, szR_7, szR_8, szR_9, szR_10, szR_11, szR_12, szR_13, szR_14, v_L, v_mu, v_Q, v_P0, iOf_i, v_P, v_sl, v_meth, v_par, v_ifS, v_set, v_setOw, v_ret, v_drop, v_for, v_lam, oCatL_le, oCatQ_le, oAdd_l, oAdd_t, oMul_l2, oMul_l3, oMul_l4, oMul_l5, Nat.reduceLeDiff, oItems_l, oItems_t, oItems_s, oItemsQ_i, oSl_l, oSl_t, oSl_sc, oTupOf_i, oLstOf_i, oSum_i, oAll_i, oAny_i, oMod_p, oDiv_p, oMul_L, oMul_R, oPow_6, oPow_12, oPow_18, oPow_20, oPow_36, oInt_i, oInt_b, oAbs_i, oLen_l, oLen_t, oLenQ_i, oIx_mu, at_0, at_1, at_2, at_3, at_4, at_5, ix5_0, ix5_1, ix5_2, ix5_3, ix5_4, Int.reduceLT, Int.reduceNeg, Int.reduceAdd, Int.reduceSub, Int.reduceMul, oAdd_i, oSub_i, oNeg_i, oLt_i, oLe_i, oGt_i, oGe_i, oMin_i, oMax_i, oEq_i, oNe_i, oEq_s, oNe_s, oIxQ_i, oIx_l, oIx_t, asB_b, asQ_l, asQ_t, v_var, var_fz, v_app, app_ow, v_ext, ext_ow, v_frzE, frs_ow, frs_fz, v_own, own_fl, own_ft, own_ow, own_sh, lp_nx, lp_ct, lp_bk, lp_rt, lp_exc, lp_bad, lp_ite, ag_some, ag_none, fl_nil, fl_cons, g_N, g_nil, g_cons, g_T, o_some, v_asg, v_try, try_exc, try_nx, try_rt, trE_rt, trE_nx, v_thkE, v_thkR, thk_rv, said_nx, said_rt, v_isE, isE_rv, v_wipeR, v_callL, callL_fn, lkL_some, v_store, may_ow, may_fz, may_t, sto_ow, sto_mu, ixO_s, List.getElem?_cons_succ, List.getElem?_cons_zero, List.set_cons_succ, List.set_cons_zero, startE, List.zipWith, List.replicate, List.length_cons, List.length_nil, List.cons_append, List.nil_append, setE, Nat.reduceSub, Nat.reduceAdd, if_true, if_false, ite_true, ite_false, Bool.not_true, Bool.not_false, Bool.false_eq_true]) (by omega) (fun _ _ => by simp)
    (fun z hz => ⟨_, rfl, rfl, fun _ => ⟨by dsimp only [wipeE]; simp (config := {implicitDefEqProofs := false}) only [b_ok, b_exc, b_bad, b_ite, l_some, l_none, of_ok, of_exc, of_bad, of_ite, sq_nx, sq_rt, sq_bk, sq_ct, sq_exc, sq_bad, sq_ite, fn_nx, fn_rt, fn_exc, fn_bad, fn_ite, v_mkF, v_seq, v_next, v_retN, v_brk, v_cont, v_raise, v_frz, v_bin, v_op1, v_c, v_nil, v_cons, v_consO, v_call, v_test, v_not, v_and, v_or, v_if, bol_b, v_andV, v_orV, v_notV, v_chain, v_lst, v_tup, szR_0, szR_1, szR_2, szR_3, szR_4, szR_5, szR_6, szR_7, szR_8, szR_9, szR_10, szR_11, szR_12, szR_13, szR_14, v_L, v_mu, v_Q, v_P0, iOf_i, v_P, v_sl, v_meth, v_par, v_ifS, v_set, v_setOw, v_ret, v_drop, v_for, v_lam, oCatL_le, oCatQ_le, oAdd_l, oAdd_t, oMul_l2, oMul_l3, oMul_l4, oMul_l5, Nat.reduceLeDiff, oItems_l, oItems_t, oItems_s, oItemsQ_i, oSl_l, oSl_t, oSl_sc, oTupOf_i, oLstOf_i, oSum_i, oAll_i, oAny_i, oMod_p, oDiv_p, oMul_L, oMul_R, oPow_6, oPow_12, oPow_18, oPow_20, oPow_36, oInt_i, oInt_b, oAbs_i, oLen_l, oLen_t, oLenQ_i, oIx_mu, at_0, at_1, at_2, at_3, at_4, at_5, ix5_0, ix5_1, ix5_2, ix5_3, ix5_4, Int.reduceLT, Int.reduceNeg, Int.reduceAdd, Int.reduceSub, Int.reduceMul, oAdd_i, oSub_i, oNeg_i, oLt_i, oLe_i, oGt_i, oGe_i, oMin_i, oMax_i, oEq_i, oNe_i, oEq_s, oNe_s, oIxQ_i, oIx_l, oIx_t, asB_b, asQ_l, asQ_t, v_var, var_fz, v_app, app_ow, v_ext, ext_ow, v_frzE, frs_ow, frs_fz, v_own, own_fl, own_ft, own_ow, own_sh, lp_nx, lp_ct, lp_bk, lp_rt, lp_exc, lp_bad, lp_ite, ag_some, ag_none, fl_nil, fl_cons, g_N, g_nil, g_cons, g_T, o_some, v_asg, v_try, try_exc, try_nx, try_rt, trE_rt, trE_nx, v_thkE, v_thkR, thk_rv, said_nx, said_rt, v_isE, isE_rv, v_wipeR, v_callL, callL_fn, lkL_some, v_store, may_ow, may_fz, may_t, sto_ow, sto_mu, ixO_s, List.getElem?_cons_succ, List.getElem?_cons_zero, List.set_cons_succ, List.set_cons_zero, startE, List.zipWith, List.replicate, List.length_cons, List.length_nil, List.cons_append, List.nil_append, setE, Nat.reduceSub, Nat.reduceAdd, if_true, if_false, ite_true, ite_false, Bool.not_true, Bool.not_false, Bool.false_eq_true,
                                                                       hr], fun k hk => ⟨_, rfl, rfl, fun _ => by
      have hk : k < 10 := by simpa using hk
      have hz6 := six_len (h z hz)
      obtain ⟨l1, l2⟩ := put_len (h z hz) hp hk
      dsimp only [wipeE]
      simp (config := {implicitDefEqProofs := false}) only [b_ok, b_exc, b_bad, b_ite, l_some, l_none, of_ok, of_exc, of_bad, of_ite, sq_nx, sq_rt, sq_bk, sq_ct, sq_exc, sq_bad, sq_ite, fn_nx, fn_rt, fn_exc, fn_bad, fn_ite, v_mkF, v_seq, v_next, v_retN, v_brk, v_cont, v_raise, v_frz, v_bin, v_op1, v_c, v_nil, v_cons, v_consO, v_call, v_test, v_not, v_and, v_or, v_if, bol_b, v_andV, v_orV, v_notV, v_chain, v_lst, v_tup, szR_0, szR_1, szR_2, szR_3, szR_4, szR_5, szR_6, szR_7, szR_8, szR_9, szR_10, szR_11, szR_12, szR_13, szR_14, v_L, v_mu, v_Q, v_P0, iOf_i, v_P, v_sl, v_meth, v_par, v_ifS, v_set, v_setOw, v_ret, v_drop, v_for, v_lam, oCatL_le, oCatQ_le, oAdd_l, oAdd_t, oMul_l2, oMul_l3, oMul_l4, oMul_l5, Nat.reduceLeDiff, oItems_l, oItems_t, oItems_s, oItemsQ_i, oSl_l, oSl_t, oSl_sc, oTupOf_i, oLstOf_i, oSum_i, oAll_i, oAny_i, oMod_p, oDiv_p, oMul_L, oMul_R, oPow_6, oPow_12, oPow_18, oPow_20, oPow_36, oInt_i, oInt_b, oAbs_i, oLen_l, oLen_t, oLenQ_i, oIx_mu, at_0, at_1, at_2, at_3, at_4, at_5, ix5_0, ix5_1, ix5_2, ix5_3, ix5_4, Int.reduceLT, Int.reduceNeg, Int.reduceAdd, Int.reduceSub, Int.reduceMul, oAdd_i, oSub_i, oNeg_i, oLt_i, oLe_i, oGt_i, oGe_i, oMin_i, oMax_i, oEq_i, oNe_i, oEq_s, oNe_s, oIxQ_i, oIx_l, oIx_t, asB_b, asQ_l, asQ_t, v_var, var_fz, v_app, app_ow, v_ext, ext_ow, v_frzE, frs_ow, frs_fz, v_own, own_fl, own_ft, own_ow, own_sh, lp_nx, lp_ct, lp_bk, lp_rt, lp_exc, lp_bad, lp_ite, ag_some, ag_none, fl_nil, fl_cons, g_N, g_nil, g_cons, g_T, o_some, v_asg, v_try, try_exc, try_nx, try_rt, trE_rt, trE_nx, v_thkE, v_thkR, thk_rv, said_nx, said_rt, v_isE, isE_rv, v_wipeR, v_callL, callL_fn, lkL_some, v_store, may_ow, may_fz, may_t, sto_ow, sto_mu, ixO_s, List.getElem?_cons_succ, List.getElem?_cons_zero, List.set_cons_succ, List.set_cons_zero, startE, List.zipWith, List.replicate, List.length_cons, List.length_nil, List.cons_append, List.nil_append, setE, Nat.reduceSub, Nat.reduceAdd, if_true, if_false, ite_true, ite_false, Bool.not_true, Bool.not_false, Bool.false_eq_true,
             Int.zero_add, oStr_d hk, oSl_s (z := z) (show z.length ≤ 1000000 by omega), oAdd_s (x := Txt.slice z none (some (p : Int))) (y := ⟨#[48 + k]⟩) (by omega), oAdd_s (x := Txt.slice z none (some (p : Int)) ++ ⟨#[48 + k]⟩) (y := Txt.slice z (some ((p : Int) + 1)) none) (by omega)]
      rfl⟩⟩⟩)
  have e3 : ((L.filter fun _ => true).flatMap fun z => ((List.range 10).filter fun _ => true).map fun k => PyData.str (put z p k)) = (grow L p).map .str := by
    have e1 := e L
    have e2 := e (List.range 10)
    unfold grow
    rw [e1, e2, List.map_flatMap]
    simp only [List.map_map]
    rfl
  rw [e3] at this
  exact this
theorem signs10 : signsD "0123456789" = (List.range 10).map fun k => PyData.str ⟨#[48 + k]⟩ := by kernel_rfl
theorem q_law_worn {z : Str} (h : six z = true) {p : Nat} (hp : p < 6) (s : S) (x0 x1 x2 x4 x6 : Sl) : q__law_worn_1 [x0, x1, x2, .fz (.int p), x4, .fz (.str z), x6] s = .ok ((((List.range 10).map fun k => put z p k)).map .str) s := by
  have e : ∀ {α : Type} (xs : List α), xs.filter (fun _ => true) = xs := fun xs => List.filter_eq_self.mpr fun _ _ => rfl
  have := comp_map (src := mOp1 oItems (mC (.str "0123456789"))) (vs := [6]) (asg := gN 6) (test := mTrue) (elt := mBin oAdd (mBin oAdd (mSl oSl (mVar 5) (mP0) (mP (mVar 3))) (mVar 6)) (mSl oSl (mVar 5) (mP (mBin oAdd (mVar 3) (mC (.int 1)))) (mP0)))
    (env := [x0, x1, x2, .fz (.int p), x4, .fz (.str z), x6]) (s := s) (s1 := s) (xs := List.range 10) (f := fun k => PyData.str ⟨#[48 + k]⟩) (fun _ => true) (fun k => .str (put z p k)) (by simp (config := {implicitDefEqProofs := false}) only [b_ok, b_exc, b_bad, b_ite, l_some, l_none, of_ok, of_exc, of_bad, of_ite, sq_nx, sq_rt, sq_bk, sq_ct, sq_exc, sq_bad, sq_ite, fn_nx, fn_rt, fn_exc, fn_bad, fn_ite, v_mkF, v_seq, v_next, v_retN, v_brk, v_cont, v_raise, v_frz, v_bin, v_op1, v_c, v_nil, v_cons, v_consO, v_call, v_test, v_not, v_and, v_or, v_if, bol_b, v_andV, v_orV, v_notV, v_chain, v_lst, v_tup, szR_0, szR_1, szR_2, szR_3, szR_4, szR_5, szR_6, szR_7, szR_8, szR_9, szR_10, szR_11, szR_12, szR_13, szR_14, v_L, v_mu, v_Q, v_P0, iOf_i, v_P, v_sl, v_meth, v_par, v_ifS, v_set, v_setOw, v_ret, v_drop, v_for, v_lam, oCatL_le, oCatQ_le, oAdd_l, oAdd_t, oMul_l2, oMul_l3, oMul_l4, oMul_l5, Nat.reduceLeDiff, oItems_l, oItems_t, oItems_s, oItemsQ_i, oSl_l, oSl_t, oSl_sc, oTupOf_i, oLstOf_i, oSum_i, oAll_i, oAny_i, oMod_p, oDiv_p, oMul_L, oMul_R, oPow_6, oPow_12, oPow_18, oPow_20, oPow_36, oInt_i, oInt_b, oAbs_i, oLen_l, oLen_t, oLenQ_i, oIx_mu, at_0, at_1, at_2, at_3, at_4, at_5, ix5_0, ix5_1, ix5_2, ix5_3, ix5_4, Int.reduceLT, Int.reduceNeg, Int.reduceAdd, Int.reduceSub, Int.reduceMul, oAdd_i, oSub_i, oNeg_i, oLt_i, oLe_i, oGt_i, oGe_i, oMin_i, oMax_i, oEq_i, oNe_i, oEq_s, oNe_s, oIxQ_i, oIx_l, oIx_t, asB_b, asQ_l, asQ_t, v_var, var_fz, v_app, app_ow, v_ext, ext_ow, v_frzE, frs_ow, frs_fz, v_own, own_fl, own_ft, own_ow, own_sh, lp_nx, lp_ct, lp_bk, lp_rt, lp_exc, lp_bad, lp_ite, ag_some, ag_none, fl_nil, fl_cons, g_N, g_nil, g_cons, g_T, o_some, v_asg, v_try, try_exc, try_nx, try_rt, trE_rt, trE_nx, v_thkE, v_thkR, thk_rv, said_nx, said_rt, v_isE, isE_rv, v_wipeR, v_callL, callL_fn, lkL_some, v_store, may_ow, may_fz, may_t, sto_ow, sto_mu, ixO_s, List.getElem?_cons_succ, List.getElem?_cons_zero, List.set_cons_succ, List.set_cons_zero, startE, List.zipWith, List.replicate, List.length_cons, List.length_nil, List.cons_append, List.nil_append, setE, Nat.reduceSub, Nat.reduceAdd, if_true, if_false, ite_true, ite_false, Bool.not_true, Bool.not_false, Bool.false_eq_true]; rw [signs10]) (by simp)
    (fun k hk => ⟨_, rfl, rfl, fun _ => by
      have hk : k < 10 := by simpa using hk
      have hz6 := six_len h
      obtain ⟨l1, l2⟩ := put_len h hp hk
      dsimp only [wipeE]
      simp (config := {implicitDefEqProofs := false}) only [b_ok, b_exc, b_bad, b_ite, l_some, l_none, of_ok, of_exc, of_bad, of_ite, sq_nx, sq_rt, sq_bk, sq_ct, sq_exc, sq_bad, sq_ite, fn_nx, fn_rt, fn_exc, fn_bad, fn_ite, v_mkF, v_seq, v_next, v_retN, v_brk, v_cont, v_raise, v_frz, v_bin, v_op1, v_c, v_nil, v_cons, v_consO, v_call, v_test, v_not, v_and, v_or, v_if, bol_b, v_andV, v_orV, v_notV, v_chain, v_lst, v_tup, szR_0, szR_1, szR_2, szR_3, szR_4, szR_5, szR_6, szR_7, szR_8, szR_9, szR_10, szR_11, szR_12, szR_13, szR_14, v_L, v_mu, v_Q, v_P0, iOf_i, v_P, v_sl, v_meth, v_par, v_ifS, v_set, v_setOw, v_ret, v_drop, v_for, v_lam, oCatL_le, oCatQ_le, oAdd_l, oAdd_t, oMul_l2, oMul_l3, oMul_l4, oMul_l5, Nat.reduceLeDiff, oItems_l, oItems_t, oItems_s, oItemsQ_i, oSl_l, oSl_t, oSl_sc, oTupOf_i, oLstOf_i, oSum_i, oAll_i, oAny_i, oMod_p, oDiv_p, oMul_L, oMul_R, oPow_6, oPow_12, oPow_18, oPow_20, oPow_36, oInt_i, oInt_b, oAbs_i, oLen_l, oLen_t, oLenQ_i, oIx_mu, at_0, at_1, at_2, at_3, at_4, at_5, ix5_0, ix5_1, ix5_2, ix5_3, ix5_4, Int.reduceLT, Int.reduceNeg, Int.reduceAdd, Int.reduceSub, Int.reduceMul, oAdd_i, oSub_i, oNeg_i, oLt_i, oLe_i, oGt_i, oGe_i, oMin_i, oMax_i, oEq_i, oNe_i, oEq_s, oNe_s, oIxQ_i, oIx_l, oIx_t, asB_b, asQ_l, asQ_t, v_var, var_fz, v_app, app_ow, v_ext, ext_ow, v_frzE, frs_ow, frs_fz, v_own, own_fl, own_ft, own_ow, own_sh, lp_nx, lp_ct, lp_bk, lp_rt, lp_exc, lp_bad, lp_ite, ag_some, ag_none, fl_nil, fl_cons, g_N, g_nil, g_cons, g_T, o_some, v_asg, v_try, try_exc, try_nx, try_rt, trE_rt, trE_nx, v_thkE, v_thkR, thk_rv, said_nx, said_rt, v_isE, isE_rv, v_wipeR, v_callL, callL_fn, lkL_some, v_store, may_ow, may_fz, may_t, sto_ow, sto_mu, ixO_s, List.getElem?_cons_succ, List.getElem?_cons_zero, List.set_cons_succ, List.set_cons_zero, startE, List.zipWith, List.replicate, List.length_cons, List.length_nil, List.cons_append, List.nil_append, setE, Nat.reduceSub, Nat.reduceAdd, if_true, if_false, ite_true, ite_false, Bool.not_true, Bool.not_false, Bool.false_eq_true,
             oSl_s (z := z) (show z.length ≤ 1000000 by omega), oAdd_s (x := Txt.slice z none (some (p : Int))) (y := ⟨#[48 + k]⟩) (by omega), oAdd_s (x := Txt.slice z none (some (p : Int)) ++ ⟨#[48 + k]⟩) (y := Txt.slice z (some ((p : Int) + 1)) none) (by omega)]
      rfl⟩)
  rw [e] at this
  rw [List.map_map]
  exact this
end K76

set_option Elab.async false
set_option maxRecDepth 100000
set_option maxHeartbeats 1000000
set_option linter.all false
namespace K76
open PySem Dn
def grows (z : Str) (ps : List Nat) : List Str := ps.foldl grow [z]
theorem grows_s (z : Str) (ps : List Nat) (p : Nat) : grows z (ps ++ [p]) = grow (grows z ps) p := by
  unfold grows
  rw [List.foldl_append]
  rfl
theorem grows_six {z : Str} (h : six z = true) : ∀ (n : Nat) (ps : List Nat), ps.length = n → (∀ p ∈ ps, p < 6) → all6 (grows z ps) ∧ (grows z ps).length = 10 ^ ps.length
  | 0, ps, e, _ => by
    have : ps = [] := List.length_eq_zero_iff.mp e
    subst this
    exact ⟨fun x hx => by have : x = z := by simpa [grows] using hx
                          rw [this]; exact h, rfl⟩
  | n + 1, ps, e, hp => by
    have hne : ps ≠ [] := fun z => by rw [z] at e; cases e
    have hd := List.dropLast_concat_getLast hne
    have hl : ps.dropLast.length = n := by rw [List.length_dropLast, e]; rfl
    obtain ⟨a, b⟩ := grows_six h n ps.dropLast hl fun p hq => hp p ((List.dropLast_sublist ps).subset hq)
    have hp6 : ps.getLast hne < 6 := hp _ (List.getLast_mem hne)
    rw [← hd, grows_s]
    refine ⟨grow_six a hp6, ?_⟩
    rw [grow_len, b, List.length_append]
    rfl
def plc (ps : List Nat) : D := .tuple (ps.map fun p : Nat => .int (p : Int))
theorem small {z : Str} (h : six z = true) {ps : List Nat} (hp : ∀ p ∈ ps, p < 6) (h3 : ps.length ≤ 3) {i : Nat} (hi : i < ps.length) : all6 (grows z (ps.take i)) ∧ (grows z (ps.take i)).length ≤ 100 := by
  obtain ⟨a, b⟩ := grows_six h _ (ps.take i) rfl fun p hq => hp p (List.mem_of_mem_take hq)
  refine ⟨a, ?_⟩
  rw [b, List.length_take]
  have : min i ps.length ≤ 2 := by omega
  have := Nat.pow_le_pow_right (show 0 < 10 by decide) this
  omega
theorem take_s {ps : List Nat} {i p : Nat} (h : ps[i]? = some p) : ps.take (i + 1) = ps.take i ++ [p] := by
  rw [List.take_add_one, h]
  rfl
theorem loop_worn {z : Str} (h : six z = true) {ps : List Nat} (hp : ∀ p ∈ ps, p < 6) (h3 : ps.length ≤ 3) (s : S) (pl : D) : ∃ x3 x4 x5, forLoop (gN 3) b_worn_2 (ps.map fun p : Nat => PyData.int (p : Int)) [.fz (.str z), .fz pl, .fz (.list [.str z]), .un, .un, .un] s = .nx [.fz (.str z), .fz pl, .fz (.list ((grows z ps).map .str)), x3, x4, x5] s := by
  obtain ⟨env', s', k1, k2⟩ := for_map (asg := gN 3) (body := b_worn_2) (xs := ps) (f := fun p : Nat => PyData.int (p : Int))
    (fun i env s' => s' = s ∧ ∃ x3 x4 x5, env = [.fz (.str z), .fz pl, .fz (.list ((grows z (ps.take i)).map .str)), x3, x4, x5]) (env := [.fz (.str z), .fz pl, .fz (.list [.str z]), .un, .un, .un]) (s := s) ⟨rfl, _, _, _, rfl⟩ (fun i p env s' hx hI => by
      obtain ⟨rfl, x3, x4, x5, rfl⟩ := hI
      have hi := (List.getElem?_eq_some_iff.mp hx).1
      obtain ⟨a, b⟩ := small h hp h3 hi
      refine ⟨_, _, s', rfl, ?_, rfl, .fz (.int (p : Int)), x4, x5, rfl⟩
      unfold b_worn_2
      rw [take_s hx, grows_s]
      simp (config := {implicitDefEqProofs := false}) only [b_ok, b_exc, b_bad, b_ite, l_some, l_none, of_ok, of_exc, of_bad, of_ite, sq_nx, sq_rt, sq_bk, sq_ct, sq_exc, sq_bad, sq_ite, fn_nx, fn_rt, fn_exc, fn_bad, fn_ite, v_mkF, v_seq, v_next, v_retN, v_brk, v_cont, v_raise, v_frz, v_bin, v_op1, v_c, v_nil, v_cons, v_consO, v_call, v_test, v_not, v_and, v_or, v_if, bol_b, v_andV, v_orV, v_notV, v_chain, v_lst, v_tup, szR_0, szR_1, szR_2, szR_3, szR_4, szR_5, szR_6, szR_7, szR_8, szR_9, szR_10, szR_11, szR_12, szR_13, szR_14, v_L, v_mu, v_Q, v_P0, iOf_i, v_P, v_sl, v_meth, v_par, v_ifS, v_set, v_setOw, v_ret, v_drop, v_for, v_lam, oCatL_le, oCatQ_le, oAdd_l, oAdd_t, oMul_l2, oMul_l3, oMul_l4, oMul_l5, Nat.reduceLeDiff, oItems_l, oItems_t, oItems_s, oItemsQ_i, oSl_l, oSl_t, oSl_sc, oTupOf_i, oLstOf_i, oSum_i, oAll_i, oAny_i, oMod_p, oDiv_p, oMul_L, oMul_R, oPow_6, oPow_12, oPow_18, oPow_20, oPow_36, oInt_i, oInt_b, oAbs_i, oLen_l, oLen_t, oLenQ_i, oIx_mu, at_0, at_1, at_2, at_3, at_4, at_5, ix5_0, ix5_1, ix5_2, ix5_3, ix5_4, Int.reduceLT, Int.reduceNeg, Int.reduceAdd, Int.reduceSub, Int.reduceMul, oAdd_i, oSub_i, oNeg_i, oLt_i, oLe_i, oGt_i, oGe_i, oMin_i, oMax_i, oEq_i, oNe_i, oEq_s, oNe_s, oIxQ_i, oIx_l, oIx_t, asB_b, asQ_l, asQ_t, v_var, var_fz, v_app, app_ow, v_ext, ext_ow, v_frzE, frs_ow, frs_fz, v_own, own_fl, own_ft, own_ow, own_sh, lp_nx, lp_ct, lp_bk, lp_rt, lp_exc, lp_bad, lp_ite, ag_some, ag_none, fl_nil, fl_cons, g_N, g_nil, g_cons, g_T, o_some, v_asg, v_try, try_exc, try_nx, try_rt, trE_rt, trE_nx, v_thkE, v_thkR, thk_rv, said_nx, said_rt, v_isE, isE_rv, v_wipeR, v_callL, callL_fn, lkL_some, v_store, may_ow, may_fz, may_t, sto_ow, sto_mu, ixO_s, List.getElem?_cons_succ, List.getElem?_cons_zero, List.set_cons_succ, List.set_cons_zero, startE, List.zipWith, List.replicate, List.length_cons, List.length_nil, List.cons_append, List.nil_append, setE, Nat.reduceSub, Nat.reduceAdd, if_true, if_false, ite_true, ite_false, Bool.not_true, Bool.not_false, Bool.false_eq_true,
             q_worn a b (hp p (List.mem_of_getElem? hx))])
  obtain ⟨rfl, x3, x4, x5, rfl⟩ := k2
  rw [List.take_length] at k1
  exact ⟨_, _, _, k1⟩
theorem ext_le {ds es : List D} {i : Nat} {m : M (Bool × List D)} {env : En} {s s' : S} (hm : m env s = .ok (false, es) s') (h : ds.length + es.length ≤ 1000000) : extS (some (.ow ds)) i m env s = .nx (env.set i (.ow (ds ++ es))) s' := by
  rw [ext_ow, hm, of_ok, if_pos ⟨rfl, Nat.le_trans h (by rw [sizeLine_eq]; decide)⟩]
theorem turn_law {z : Str} {L : List Str} (h : all6 L) (hl : L.length ≤ 100) {p : Nat} (hp : p < 6) (s : S) (x0 x1 x4 x5 x6 : Sl) : ∃ y4 y5 y6, b__law_worn_3 [x0, x1, .fz (.list (L.map .str)), .fz (.int p), x4, x5, x6] s = .nx [x0, x1, .fz (.list ((grow L p).map .str)), .fz (.int p), y4, y5, y6] s := by
  obtain ⟨env', s', k1, k2⟩ := for_map (asg := gN 5) (body := b__law_worn_2) (xs := L) (f := PyData.str)
    (fun i env s' => s' = s ∧ ∃ y5 y6, env = [x0, x1, .fz (.list (L.map .str)), .fz (.int p), .ow ((grow (L.take i) p).map .str), y5, y6]) (env := [x0, x1, .fz (.list (L.map .str)), .fz (.int p), .ow [], x5, x6]) (s := s) ⟨rfl, _, _, rfl⟩ (fun i w env s' hx hI => by
      obtain ⟨rfl, y5, y6, rfl⟩ := hI
      have hi := (List.getElem?_eq_some_iff.mp hx).1
      refine ⟨_, _, s', rfl, ?_, rfl, .fz (.str w), y6, rfl⟩
      unfold b__law_worn_2
      rw [v_ext]
      have hq := q_law_worn (h w (List.mem_of_getElem? hx)) hp s' x0 x1 (.fz (.list (L.map .str))) (.ow ((grow (L.take i) p).map .str)) y6
      show extS (some (.ow ((grow (L.take i) p).map .str))) 4 _ _ _ = _
      rw [ext_le (es := ((List.range 10).map fun k => put w p k).map .str) (s' := s') (by simp (config := {implicitDefEqProofs := false}) only [b_ok, b_exc, b_bad, b_ite, l_some, l_none, of_ok, of_exc, of_bad, of_ite, sq_nx, sq_rt, sq_bk, sq_ct, sq_exc, sq_bad, sq_ite, fn_nx, fn_rt, fn_exc, fn_bad, fn_ite, v_mkF, v_seq, v_next, v_retN, v_brk, v_cont, v_raise, v_frz, v_bin, v_op1, v_c, v_nil, v_cons, v_consO, v_call, v_test, v_not, v_and, v_or, v_if, bol_b, v_andV, v_orV, v_notV, v_chain, v_lst, v_tup, szR_0, szR_1, szR_2, szR_3, szR_4, szR_5, szR_6, szR_7, szR_8, szR_9, szR_10, szR_11, szR_12, szR_13, szR_14, v_L, v_mu, v_Q, v_P0, iOf_i, v_P, v_sl, v_meth, v_par, v_ifS, v_set, v_setOw, v_ret, v_drop, v_for, v_lam, oCatL_le, oCatQ_le, oAdd_l, oAdd_t, oMul_l2, oMul_l3, oMul_l4, oMul_l5, Nat.reduceLeDiff, oItems_l, oItems_t, oItems_s, oItemsQ_i, oSl_l, oSl_t, oSl_sc, oTupOf_i, oLstOf_i, oSum_i, oAll_i, oAny_i, oMod_p, oDiv_p, oMul_L, oMul_R, oPow_6, oPow_12, oPow_18, oPow_20, oPow_36, oInt_i, oInt_b, oAbs_i, oLen_l, oLen_t, oLenQ_i, oIx_mu, at_0, at_1, at_2, at_3, at_4, at_5, ix5_0, ix5_1, ix5_2, ix5_3, ix5_4, Int.reduceLT, Int.reduceNeg, Int.reduceAdd, Int.reduceSub, Int.reduceMul, oAdd_i, oSub_i, oNeg_i, oLt_i, oLe_i, oGt_i, oGe_i, oMin_i, oMax_i, oEq_i, oNe_i, oEq_s, oNe_s, oIxQ_i, oIx_l, oIx_t, asB_b, asQ_l, asQ_t, v_var, var_fz, v_app, app_ow, v_ext, ext_ow, v_frzE, frs_ow, frs_fz, v_own, own_fl, own_ft, own_ow, own_sh, lp_nx, lp_ct, lp_bk, lp_rt, lp_exc, lp_bad, lp_ite, ag_some, ag_none, fl_nil, fl_cons, g_N, g_nil, g_cons, g_T, o_some, v_asg, v_try, try_exc, try_nx, try_rt, trE_rt, trE_nx, v_thkE, v_thkR, thk_rv, said_nx, said_rt, v_isE, isE_rv, v_wipeR, v_callL, callL_fn, lkL_some, v_store, may_ow, may_fz, may_t, sto_ow, sto_mu, ixO_s, List.getElem?_cons_succ, List.getElem?_cons_zero, List.set_cons_succ, List.set_cons_zero, startE, List.zipWith, List.replicate, List.length_cons, List.length_nil, List.cons_append, List.nil_append, setE, Nat.reduceSub, Nat.reduceAdd, if_true, if_false, ite_true, ite_false, Bool.not_true, Bool.not_false, Bool.false_eq_true,
                                                                                                 hq]) (by rw [List.length_map, grow_len, List.length_take, List.length_map, List.length_map, List.length_range]; omega)]
      have eg : grow (L.take (i + 1)) p = grow (L.take i) p ++ (List.range 10).map fun k => put w p k := by
        rw [List.take_add_one, hx]
        unfold grow
        rw [List.flatMap_append]
        simp
      rw [eg, List.map_append]
      rfl)
  obtain ⟨rfl, y5, y6, rfl⟩ := k2
  rw [List.take_length] at k1
  refine ⟨.fz (.list ((grow L p).map .str)), y5, y6, ?_⟩
  unfold b__law_worn_3
  simp (config := {implicitDefEqProofs := false}) only [b_ok, b_exc, b_bad, b_ite, l_some, l_none, of_ok, of_exc, of_bad, of_ite, sq_nx, sq_rt, sq_bk, sq_ct, sq_exc, sq_bad, sq_ite, fn_nx, fn_rt, fn_exc, fn_bad, fn_ite, v_mkF, v_seq, v_next, v_retN, v_brk, v_cont, v_raise, v_frz, v_bin, v_op1, v_c, v_nil, v_cons, v_consO, v_call, v_test, v_not, v_and, v_or, v_if, bol_b, v_andV, v_orV, v_notV, v_chain, v_lst, v_tup, szR_0, szR_1, szR_2, szR_3, szR_4, szR_5, szR_6, szR_7, szR_8, szR_9, szR_10, szR_11, szR_12, szR_13, szR_14, v_L, v_mu, v_Q, v_P0, iOf_i, v_P, v_sl, v_meth, v_par, v_ifS, v_set, v_setOw, v_ret, v_drop, v_for, v_lam, oCatL_le, oCatQ_le, oAdd_l, oAdd_t, oMul_l2, oMul_l3, oMul_l4, oMul_l5, Nat.reduceLeDiff, oItems_l, oItems_t, oItems_s, oItemsQ_i, oSl_l, oSl_t, oSl_sc, oTupOf_i, oLstOf_i, oSum_i, oAll_i, oAny_i, oMod_p, oDiv_p, oMul_L, oMul_R, oPow_6, oPow_12, oPow_18, oPow_20, oPow_36, oInt_i, oInt_b, oAbs_i, oLen_l, oLen_t, oLenQ_i, oIx_mu, at_0, at_1, at_2, at_3, at_4, at_5, ix5_0, ix5_1, ix5_2, ix5_3, ix5_4, Int.reduceLT, Int.reduceNeg, Int.reduceAdd, Int.reduceSub, Int.reduceMul, oAdd_i, oSub_i, oNeg_i, oLt_i, oLe_i, oGt_i, oGe_i, oMin_i, oMax_i, oEq_i, oNe_i, oEq_s, oNe_s, oIxQ_i, oIx_l, oIx_t, asB_b, asQ_l, asQ_t, v_var, var_fz, v_app, app_ow, v_ext, ext_ow, v_frzE, frs_ow, frs_fz, v_own, own_fl, own_ft, own_ow, own_sh, lp_nx, lp_ct, lp_bk, lp_rt, lp_exc, lp_bad, lp_ite, ag_some, ag_none, fl_nil, fl_cons, g_N, g_nil, g_cons, g_T, o_some, v_asg, v_try, try_exc, try_nx, try_rt, trE_rt, trE_nx, v_thkE, v_thkR, thk_rv, said_nx, said_rt, v_isE, isE_rv, v_wipeR, v_callL, callL_fn, lkL_some, v_store, may_ow, may_fz, may_t, sto_ow, sto_mu, ixO_s, List.getElem?_cons_succ, List.getElem?_cons_zero, List.set_cons_succ, List.set_cons_zero, startE, List.zipWith, List.replicate, List.length_cons, List.length_nil, List.cons_append, List.nil_append, setE, Nat.reduceSub, Nat.reduceAdd, if_true, if_false, ite_true, ite_false, Bool.not_true, Bool.not_false, Bool.false_eq_true,
         k1]
theorem loop_law {z : Str} (h : six z = true) {ps : List Nat} (hp : ∀ p ∈ ps, p < 6) (h3 : ps.length ≤ 3) (s : S) (pl : D) : ∃ x3 x4 x5 x6, forLoop (gN 3) b__law_worn_3 (ps.map fun p : Nat => PyData.int (p : Int)) [.fz (.str z), .fz pl, .fz (.list [.str z]), .un, .un, .un, .un] s = .nx [.fz (.str z), .fz pl, .fz (.list ((grows z ps).map .str)), x3, x4, x5, x6] s := by
  obtain ⟨env', s', k1, k2⟩ := for_map (asg := gN 3) (body := b__law_worn_3) (xs := ps) (f := fun p : Nat => PyData.int (p : Int))
    (fun i env s' => s' = s ∧ ∃ x3 x4 x5 x6, env = [.fz (.str z), .fz pl, .fz (.list ((grows z (ps.take i)).map .str)), x3, x4, x5, x6]) (env := [.fz (.str z), .fz pl, .fz (.list [.str z]), .un, .un, .un, .un]) (s := s) ⟨rfl, _, _, _, _, rfl⟩ (fun i p env s' hx hI => by
      obtain ⟨rfl, x3, x4, x5, x6, rfl⟩ := hI
      have hi := (List.getElem?_eq_some_iff.mp hx).1
      obtain ⟨a, b⟩ := small h hp h3 hi
      obtain ⟨y4, y5, y6, e⟩ := turn_law (z := z) a b (hp p (List.mem_of_getElem? hx)) s' (.fz (.str z)) (.fz pl) x4 x5 x6
      refine ⟨_, _, s', rfl, e, rfl, .fz (.int (p : Int)), y4, y5, y6, ?_⟩
      rw [take_s hx, grows_s])
  obtain ⟨rfl, x3, x4, x5, x6, rfl⟩ := k2
  rw [List.take_length] at k1
  exact ⟨_, _, _, _, k1⟩
def W (z : Str) (ps : List Nat) : List Str := ((grows z ps).filter gd).mergeSort SetM.kS.le
theorem q_fil {L : List Str} (h : all6 L) (hl : L.length ≤ 1000) (s : S) : (∀ x0 x1 x3 x4 x5, q_worn_3 [x0, x1, .fz (.list (L.map .str)), x3, x4, x5] s = .ok ((L.filter gd).map .str) s) ∧ (∀ x0 x1 x3 x4 x5 x6, q__law_worn_4 [x0, x1, .fz (.list (L.map .str)), x3, x4, x5, x6] s = .ok ((L.filter gd).map .str) s) := by
  refine ⟨fun x0 x1 x3 x4 x5 => ?_, fun x0 x1 x3 x4 x5 x6 => ?_⟩
  · refine comp_map (xs := L) (f := .str) (s1 := s) gd .str (by simp (config := {implicitDefEqProofs := false}) only [b_ok, b_exc, b_bad, b_ite, l_some, l_none, of_ok, of_exc, of_bad, of_ite, sq_nx, sq_rt, sq_bk, sq_ct, sq_exc, sq_bad, sq_ite, fn_nx, fn_rt, fn_exc, fn_bad, fn_ite, v_mkF, v_seq, v_next, v_retN, v_brk, v_cont, v_raise, v_frz, v_bin, v_op1, v_c, v_nil, v_cons, v_consO, v_call, v_test, v_not, v_and, v_or, v_if, bol_b, v_andV, v_orV, v_notV, v_chain, v_lst, v_tup, szR_0, szR_1, szR_2, szR_3, szR_4, szR_5, szR_6, szR_7, szR_8, szR_9, szR_10, szR_11, szR_12, szR_13, szR_14, v_L, v_mu, v_Q, v_P0, iOf_i, v_P, v_sl, v_meth, v_par, v_ifS, v_set, v_setOw, v_ret, v_drop, v_for, v_lam, oCatL_le, oCatQ_le, oAdd_l, oAdd_t, oMul_l2, oMul_l3, oMul_l4, oMul_l5, Nat.reduceLeDiff, oItems_l, oItems_t, oItems_s, oItemsQ_i, oSl_l, oSl_t, oSl_sc, oTupOf_i, oLstOf_i, oSum_i, oAll_i, oAny_i, oMod_p, oDiv_p, oMul_L, oMul_R, oPow_6, oPow_12, oPow_18, oPow_20, oPow_36, oInt_i, oInt_b, oAbs_i, oLen_l, oLen_t, oLenQ_i, oIx_mu, at_0, at_1, at_2, at_3, at_4, at_5, ix5_0, ix5_1, ix5_2, ix5_3, ix5_4, Int.reduceLT, Int.reduceNeg, Int.reduceAdd, Int.reduceSub, Int.reduceMul, oAdd_i, oSub_i, oNeg_i, oLt_i, oLe_i, oGt_i, oGe_i, oMin_i, oMax_i, oEq_i, oNe_i, oEq_s, oNe_s, oIxQ_i, oIx_l, oIx_t, asB_b, asQ_l, asQ_t, v_var, var_fz, v_app, app_ow, v_ext, ext_ow, v_frzE, frs_ow, frs_fz, v_own, own_fl, own_ft, own_ow, own_sh, lp_nx, lp_ct, lp_bk, lp_rt, lp_exc, lp_bad, lp_ite, ag_some, ag_none, fl_nil, fl_cons, g_N, g_nil, g_cons, g_T, o_some, v_asg, v_try, try_exc, try_nx, try_rt, trE_rt, trE_nx, v_thkE, v_thkR, thk_rv, said_nx, said_rt, v_isE, isE_rv, v_wipeR, v_callL, callL_fn, lkL_some, v_store, may_ow, may_fz, may_t, sto_ow, sto_mu, ixO_s, List.getElem?_cons_succ, List.getElem?_cons_zero, List.set_cons_succ, List.set_cons_zero, startE, List.zipWith, List.replicate, List.length_cons, List.length_nil, List.cons_append, List.nil_append, setE, Nat.reduceSub, Nat.reduceAdd, if_true, if_false, ite_true, ite_false, Bool.not_true, Bool.not_false, Bool.false_eq_true]) (by omega) fun x hx => ⟨_, rfl, ?_, fun _ => ?_⟩
    · dsimp only [wipeE]
      simp (config := {implicitDefEqProofs := false}) only [b_ok, b_exc, b_bad, b_ite, l_some, l_none, of_ok, of_exc, of_bad, of_ite, sq_nx, sq_rt, sq_bk, sq_ct, sq_exc, sq_bad, sq_ite, fn_nx, fn_rt, fn_exc, fn_bad, fn_ite, v_mkF, v_seq, v_next, v_retN, v_brk, v_cont, v_raise, v_frz, v_bin, v_op1, v_c, v_nil, v_cons, v_consO, v_call, v_test, v_not, v_and, v_or, v_if, bol_b, v_andV, v_orV, v_notV, v_chain, v_lst, v_tup, szR_0, szR_1, szR_2, szR_3, szR_4, szR_5, szR_6, szR_7, szR_8, szR_9, szR_10, szR_11, szR_12, szR_13, szR_14, v_L, v_mu, v_Q, v_P0, iOf_i, v_P, v_sl, v_meth, v_par, v_ifS, v_set, v_setOw, v_ret, v_drop, v_for, v_lam, oCatL_le, oCatQ_le, oAdd_l, oAdd_t, oMul_l2, oMul_l3, oMul_l4, oMul_l5, Nat.reduceLeDiff, oItems_l, oItems_t, oItems_s, oItemsQ_i, oSl_l, oSl_t, oSl_sc, oTupOf_i, oLstOf_i, oSum_i, oAll_i, oAny_i, oMod_p, oDiv_p, oMul_L, oMul_R, oPow_6, oPow_12, oPow_18, oPow_20, oPow_36, oInt_i, oInt_b, oAbs_i, oLen_l, oLen_t, oLenQ_i, oIx_mu, at_0, at_1, at_2, at_3, at_4, at_5, ix5_0, ix5_1, ix5_2, ix5_3, ix5_4, Int.reduceLT, Int.reduceNeg, Int.reduceAdd, Int.reduceSub, Int.reduceMul, oAdd_i, oSub_i, oNeg_i, oLt_i, oLe_i, oGt_i, oGe_i, oMin_i, oMax_i, oEq_i, oNe_i, oEq_s, oNe_s, oIxQ_i, oIx_l, oIx_t, asB_b, asQ_l, asQ_t, v_var, var_fz, v_app, app_ow, v_ext, ext_ow, v_frzE, frs_ow, frs_fz, v_own, own_fl, own_ft, own_ow, own_sh, lp_nx, lp_ct, lp_bk, lp_rt, lp_exc, lp_bad, lp_ite, ag_some, ag_none, fl_nil, fl_cons, g_N, g_nil, g_cons, g_T, o_some, v_asg, v_try, try_exc, try_nx, try_rt, trE_rt, trE_nx, v_thkE, v_thkR, thk_rv, said_nx, said_rt, v_isE, isE_rv, v_wipeR, v_callL, callL_fn, lkL_some, v_store, may_ow, may_fz, may_t, sto_ow, sto_mu, ixO_s, List.getElem?_cons_succ, List.getElem?_cons_zero, List.set_cons_succ, List.set_cons_zero, startE, List.zipWith, List.replicate, List.length_cons, List.length_nil, List.cons_append, List.nil_append, setE, Nat.reduceSub, Nat.reduceAdd, if_true, if_false, ite_true, ite_false, Bool.not_true, Bool.not_false, Bool.false_eq_true,
             (e_gd (h x hx) s).1]
    · dsimp only [wipeE]
      simp (config := {implicitDefEqProofs := false}) only [b_ok, b_exc, b_bad, b_ite, l_some, l_none, of_ok, of_exc, of_bad, of_ite, sq_nx, sq_rt, sq_bk, sq_ct, sq_exc, sq_bad, sq_ite, fn_nx, fn_rt, fn_exc, fn_bad, fn_ite, v_mkF, v_seq, v_next, v_retN, v_brk, v_cont, v_raise, v_frz, v_bin, v_op1, v_c, v_nil, v_cons, v_consO, v_call, v_test, v_not, v_and, v_or, v_if, bol_b, v_andV, v_orV, v_notV, v_chain, v_lst, v_tup, szR_0, szR_1, szR_2, szR_3, szR_4, szR_5, szR_6, szR_7, szR_8, szR_9, szR_10, szR_11, szR_12, szR_13, szR_14, v_L, v_mu, v_Q, v_P0, iOf_i, v_P, v_sl, v_meth, v_par, v_ifS, v_set, v_setOw, v_ret, v_drop, v_for, v_lam, oCatL_le, oCatQ_le, oAdd_l, oAdd_t, oMul_l2, oMul_l3, oMul_l4, oMul_l5, Nat.reduceLeDiff, oItems_l, oItems_t, oItems_s, oItemsQ_i, oSl_l, oSl_t, oSl_sc, oTupOf_i, oLstOf_i, oSum_i, oAll_i, oAny_i, oMod_p, oDiv_p, oMul_L, oMul_R, oPow_6, oPow_12, oPow_18, oPow_20, oPow_36, oInt_i, oInt_b, oAbs_i, oLen_l, oLen_t, oLenQ_i, oIx_mu, at_0, at_1, at_2, at_3, at_4, at_5, ix5_0, ix5_1, ix5_2, ix5_3, ix5_4, Int.reduceLT, Int.reduceNeg, Int.reduceAdd, Int.reduceSub, Int.reduceMul, oAdd_i, oSub_i, oNeg_i, oLt_i, oLe_i, oGt_i, oGe_i, oMin_i, oMax_i, oEq_i, oNe_i, oEq_s, oNe_s, oIxQ_i, oIx_l, oIx_t, asB_b, asQ_l, asQ_t, v_var, var_fz, v_app, app_ow, v_ext, ext_ow, v_frzE, frs_ow, frs_fz, v_own, own_fl, own_ft, own_ow, own_sh, lp_nx, lp_ct, lp_bk, lp_rt, lp_exc, lp_bad, lp_ite, ag_some, ag_none, fl_nil, fl_cons, g_N, g_nil, g_cons, g_T, o_some, v_asg, v_try, try_exc, try_nx, try_rt, trE_rt, trE_nx, v_thkE, v_thkR, thk_rv, said_nx, said_rt, v_isE, isE_rv, v_wipeR, v_callL, callL_fn, lkL_some, v_store, may_ow, may_fz, may_t, sto_ow, sto_mu, ixO_s, List.getElem?_cons_succ, List.getElem?_cons_zero, List.set_cons_succ, List.set_cons_zero, startE, List.zipWith, List.replicate, List.length_cons, List.length_nil, List.cons_append, List.nil_append, setE, Nat.reduceSub, Nat.reduceAdd, if_true, if_false, ite_true, ite_false, Bool.not_true, Bool.not_false, Bool.false_eq_true]
  · refine comp_map (xs := L) (f := .str) (s1 := s) gd .str (by simp (config := {implicitDefEqProofs := false}) only [b_ok, b_exc, b_bad, b_ite, l_some, l_none, of_ok, of_exc, of_bad, of_ite, sq_nx, sq_rt, sq_bk, sq_ct, sq_exc, sq_bad, sq_ite, fn_nx, fn_rt, fn_exc, fn_bad, fn_ite, v_mkF, v_seq, v_next, v_retN, v_brk, v_cont, v_raise, v_frz, v_bin, v_op1, v_c, v_nil, v_cons, v_consO, v_call, v_test, v_not, v_and, v_or, v_if, bol_b, v_andV, v_orV, v_notV, v_chain, v_lst, v_tup, szR_0, szR_1, szR_2, szR_3, szR_4, szR_5, szR_6, szR_7, szR_8, szR_9, szR_10, szR_11, szR_12, szR_13, szR_14, v_L, v_mu, v_Q, v_P0, iOf_i, v_P, v_sl, v_meth, v_par, v_ifS, v_set, v_setOw, v_ret, v_drop, v_for, v_lam, oCatL_le, oCatQ_le, oAdd_l, oAdd_t, oMul_l2, oMul_l3, oMul_l4, oMul_l5, Nat.reduceLeDiff, oItems_l, oItems_t, oItems_s, oItemsQ_i, oSl_l, oSl_t, oSl_sc, oTupOf_i, oLstOf_i, oSum_i, oAll_i, oAny_i, oMod_p, oDiv_p, oMul_L, oMul_R, oPow_6, oPow_12, oPow_18, oPow_20, oPow_36, oInt_i, oInt_b, oAbs_i, oLen_l, oLen_t, oLenQ_i, oIx_mu, at_0, at_1, at_2, at_3, at_4, at_5, ix5_0, ix5_1, ix5_2, ix5_3, ix5_4, Int.reduceLT, Int.reduceNeg, Int.reduceAdd, Int.reduceSub, Int.reduceMul, oAdd_i, oSub_i, oNeg_i, oLt_i, oLe_i, oGt_i, oGe_i, oMin_i, oMax_i, oEq_i, oNe_i, oEq_s, oNe_s, oIxQ_i, oIx_l, oIx_t, asB_b, asQ_l, asQ_t, v_var, var_fz, v_app, app_ow, v_ext, ext_ow, v_frzE, frs_ow, frs_fz, v_own, own_fl, own_ft, own_ow, own_sh, lp_nx, lp_ct, lp_bk, lp_rt, lp_exc, lp_bad, lp_ite, ag_some, ag_none, fl_nil, fl_cons, g_N, g_nil, g_cons, g_T, o_some, v_asg, v_try, try_exc, try_nx, try_rt, trE_rt, trE_nx, v_thkE, v_thkR, thk_rv, said_nx, said_rt, v_isE, isE_rv, v_wipeR, v_callL, callL_fn, lkL_some, v_store, may_ow, may_fz, may_t, sto_ow, sto_mu, ixO_s, List.getElem?_cons_succ, List.getElem?_cons_zero, List.set_cons_succ, List.set_cons_zero, startE, List.zipWith, List.replicate, List.length_cons, List.length_nil, List.cons_append, List.nil_append, setE, Nat.reduceSub, Nat.reduceAdd, if_true, if_false, ite_true, ite_false, Bool.not_true, Bool.not_false, Bool.false_eq_true]) (by omega) fun x hx => ⟨_, rfl, ?_, fun _ => ?_⟩
    · dsimp only [wipeE]
      simp (config := {implicitDefEqProofs := false}) only [b_ok, b_exc, b_bad, b_ite, l_some, l_none, of_ok, of_exc, of_bad, of_ite, sq_nx, sq_rt, sq_bk, sq_ct, sq_exc, sq_bad, sq_ite, fn_nx, fn_rt, fn_exc, fn_bad, fn_ite, v_mkF, v_seq, v_next, v_retN, v_brk, v_cont, v_raise, v_frz, v_bin, v_op1, v_c, v_nil, v_cons, v_consO, v_call, v_test, v_not, v_and, v_or, v_if, bol_b, v_andV, v_orV, v_notV, v_chain, v_lst, v_tup, szR_0, szR_1, szR_2, szR_3, szR_4, szR_5, szR_6, szR_7, szR_8, szR_9, szR_10, szR_11, szR_12, szR_13, szR_14, v_L, v_mu, v_Q, v_P0, iOf_i, v_P, v_sl, v_meth, v_par, v_ifS, v_set, v_setOw, v_ret, v_drop, v_for, v_lam, oCatL_le, oCatQ_le, oAdd_l, oAdd_t, oMul_l2, oMul_l3, oMul_l4, oMul_l5, Nat.reduceLeDiff, oItems_l, oItems_t, oItems_s, oItemsQ_i, oSl_l, oSl_t, oSl_sc, oTupOf_i, oLstOf_i, oSum_i, oAll_i, oAny_i, oMod_p, oDiv_p, oMul_L, oMul_R, oPow_6, oPow_12, oPow_18, oPow_20, oPow_36, oInt_i, oInt_b, oAbs_i, oLen_l, oLen_t, oLenQ_i, oIx_mu, at_0, at_1, at_2, at_3, at_4, at_5, ix5_0, ix5_1, ix5_2, ix5_3, ix5_4, Int.reduceLT, Int.reduceNeg, Int.reduceAdd, Int.reduceSub, Int.reduceMul, oAdd_i, oSub_i, oNeg_i, oLt_i, oLe_i, oGt_i, oGe_i, oMin_i, oMax_i, oEq_i, oNe_i, oEq_s, oNe_s, oIxQ_i, oIx_l, oIx_t, asB_b, asQ_l, asQ_t, v_var, var_fz, v_app, app_ow, v_ext, ext_ow, v_frzE, frs_ow, frs_fz, v_own, own_fl, own_ft, own_ow, own_sh, lp_nx, lp_ct, lp_bk, lp_rt, lp_exc, lp_bad, lp_ite, ag_some, ag_none, fl_nil, fl_cons, g_N, g_nil, g_cons, g_T, o_some, v_asg, v_try, try_exc, try_nx, try_rt, trE_rt, trE_nx, v_thkE, v_thkR, thk_rv, said_nx, said_rt, v_isE, isE_rv, v_wipeR, v_callL, callL_fn, lkL_some, v_store, may_ow, may_fz, may_t, sto_ow, sto_mu, ixO_s, List.getElem?_cons_succ, List.getElem?_cons_zero, List.set_cons_succ, List.set_cons_zero, startE, List.zipWith, List.replicate, List.length_cons, List.length_nil, List.cons_append, List.nil_append, setE, Nat.reduceSub, Nat.reduceAdd, if_true, if_false, ite_true, ite_false, Bool.not_true, Bool.not_false, Bool.false_eq_true,
             (e_gd (h x hx) s).2]
    · dsimp only [wipeE]
      simp (config := {implicitDefEqProofs := false}) only [b_ok, b_exc, b_bad, b_ite, l_some, l_none, of_ok, of_exc, of_bad, of_ite, sq_nx, sq_rt, sq_bk, sq_ct, sq_exc, sq_bad, sq_ite, fn_nx, fn_rt, fn_exc, fn_bad, fn_ite, v_mkF, v_seq, v_next, v_retN, v_brk, v_cont, v_raise, v_frz, v_bin, v_op1, v_c, v_nil, v_cons, v_consO, v_call, v_test, v_not, v_and, v_or, v_if, bol_b, v_andV, v_orV, v_notV, v_chain, v_lst, v_tup, szR_0, szR_1, szR_2, szR_3, szR_4, szR_5, szR_6, szR_7, szR_8, szR_9, szR_10, szR_11, szR_12, szR_13, szR_14, v_L, v_mu, v_Q, v_P0, iOf_i, v_P, v_sl, v_meth, v_par, v_ifS, v_set, v_setOw, v_ret, v_drop, v_for, v_lam, oCatL_le, oCatQ_le, oAdd_l, oAdd_t, oMul_l2, oMul_l3, oMul_l4, oMul_l5, Nat.reduceLeDiff, oItems_l, oItems_t, oItems_s, oItemsQ_i, oSl_l, oSl_t, oSl_sc, oTupOf_i, oLstOf_i, oSum_i, oAll_i, oAny_i, oMod_p, oDiv_p, oMul_L, oMul_R, oPow_6, oPow_12, oPow_18, oPow_20, oPow_36, oInt_i, oInt_b, oAbs_i, oLen_l, oLen_t, oLenQ_i, oIx_mu, at_0, at_1, at_2, at_3, at_4, at_5, ix5_0, ix5_1, ix5_2, ix5_3, ix5_4, Int.reduceLT, Int.reduceNeg, Int.reduceAdd, Int.reduceSub, Int.reduceMul, oAdd_i, oSub_i, oNeg_i, oLt_i, oLe_i, oGt_i, oGe_i, oMin_i, oMax_i, oEq_i, oNe_i, oEq_s, oNe_s, oIxQ_i, oIx_l, oIx_t, asB_b, asQ_l, asQ_t, v_var, var_fz, v_app, app_ow, v_ext, ext_ow, v_frzE, frs_ow, frs_fz, v_own, own_fl, own_ft, own_ow, own_sh, lp_nx, lp_ct, lp_bk, lp_rt, lp_exc, lp_bad, lp_ite, ag_some, ag_none, fl_nil, fl_cons, g_N, g_nil, g_cons, g_T, o_some, v_asg, v_try, try_exc, try_nx, try_rt, trE_rt, trE_nx, v_thkE, v_thkR, thk_rv, said_nx, said_rt, v_isE, isE_rv, v_wipeR, v_callL, callL_fn, lkL_some, v_store, may_ow, may_fz, may_t, sto_ow, sto_mu, ixO_s, List.getElem?_cons_succ, List.getElem?_cons_zero, List.set_cons_succ, List.set_cons_zero, startE, List.zipWith, List.replicate, List.length_cons, List.length_nil, List.cons_append, List.nil_append, setE, Nat.reduceSub, Nat.reduceAdd, if_true, if_false, ite_true, ite_false, Bool.not_true, Bool.not_false, Bool.false_eq_true]
theorem oAll_t {n : Nat} {b : Bool} {s : S} (xs : List Bool) (h : ∀ x ∈ xs, x = true) : oAll (false, xs.map .bool) s = some (.bool true) := by
  rw [oAll_i]
  congr 2
  exact List.all_eq_true.mpr fun x hx => h x hx
theorem e_row {ps : List Nat} (hp : ∀ p ∈ ps, p < 6) (h3 : ps.length ≤ 3) (hw : ps.Pairwise (· < ·)) (s : S) : mf_is_row [plc ps, .int 6] s = .ok (.bool true) s := by
  have e : ∀ {α : Type} (xs : List α), xs.filter (fun _ => true) = xs := fun xs => List.filter_eq_self.mpr fun _ _ => rfl
  have q1 : q_are_below_1 [.fz (plc ps), .fz (.int 6), .un] s = .ok ((ps.filter fun _ => true).map fun _ => PyData.bool true) s := by
    refine comp_map (xs := ps) (f := fun p : Nat => PyData.int (p : Int)) (s1 := s) (fun _ => true) _ (by unfold plc; simp (config := {implicitDefEqProofs := false}) only [b_ok, b_exc, b_bad, b_ite, l_some, l_none, of_ok, of_exc, of_bad, of_ite, sq_nx, sq_rt, sq_bk, sq_ct, sq_exc, sq_bad, sq_ite, fn_nx, fn_rt, fn_exc, fn_bad, fn_ite, v_mkF, v_seq, v_next, v_retN, v_brk, v_cont, v_raise, v_frz, v_bin, v_op1, v_c, v_nil, v_cons, v_consO, v_call, v_test, v_not, v_and, v_or, v_if, bol_b, v_andV, v_orV, v_notV, v_chain, v_lst, v_tup, szR_0, szR_1, szR_2, szR_3, szR_4, szR_5, szR_6, szR_7, szR_8, szR_9, szR_10, szR_11, szR_12, szR_13, szR_14, v_L, v_mu, v_Q, v_P0, iOf_i, v_P, v_sl, v_meth, v_par, v_ifS, v_set, v_setOw, v_ret, v_drop, v_for, v_lam, oCatL_le, oCatQ_le, oAdd_l, oAdd_t, oMul_l2, oMul_l3, oMul_l4, oMul_l5, Nat.reduceLeDiff, oItems_l, oItems_t, oItems_s, oItemsQ_i, oSl_l, oSl_t, oSl_sc, oTupOf_i, oLstOf_i, oSum_i, oAll_i, oAny_i, oMod_p, oDiv_p, oMul_L, oMul_R, oPow_6, oPow_12, oPow_18, oPow_20, oPow_36, oInt_i, oInt_b, oAbs_i, oLen_l, oLen_t, oLenQ_i, oIx_mu, at_0, at_1, at_2, at_3, at_4, at_5, ix5_0, ix5_1, ix5_2, ix5_3, ix5_4, Int.reduceLT, Int.reduceNeg, Int.reduceAdd, Int.reduceSub, Int.reduceMul, oAdd_i, oSub_i, oNeg_i, oLt_i, oLe_i, oGt_i, oGe_i, oMin_i, oMax_i, oEq_i, oNe_i, oEq_s, oNe_s, oIxQ_i, oIx_l, oIx_t, asB_b, asQ_l, asQ_t, v_var, var_fz, v_app, app_ow, v_ext, ext_ow, v_frzE, frs_ow, frs_fz, v_own, own_fl, own_ft, own_ow, own_sh, lp_nx, lp_ct, lp_bk, lp_rt, lp_exc, lp_bad, lp_ite, ag_some, ag_none, fl_nil, fl_cons, g_N, g_nil, g_cons, g_T, o_some, v_asg, v_try, try_exc, try_nx, try_rt, trE_rt, trE_nx, v_thkE, v_thkR, thk_rv, said_nx, said_rt, v_isE, isE_rv, v_wipeR, v_callL, callL_fn, lkL_some, v_store, may_ow, may_fz, may_t, sto_ow, sto_mu, ixO_s, List.getElem?_cons_succ, List.getElem?_cons_zero, List.set_cons_succ, List.set_cons_zero, startE, List.zipWith, List.replicate, List.length_cons, List.length_nil, List.cons_append, List.nil_append, setE, Nat.reduceSub, Nat.reduceAdd, if_true, if_false, ite_true, ite_false, Bool.not_true, Bool.not_false, Bool.false_eq_true]) (by omega) fun p hq => ⟨_, rfl, rfl, fun _ => ?_⟩
    have := hp p hq
    dsimp only [wipeE]
    simp (config := {implicitDefEqProofs := false}) only [b_ok, b_exc, b_bad, b_ite, l_some, l_none, of_ok, of_exc, of_bad, of_ite, sq_nx, sq_rt, sq_bk, sq_ct, sq_exc, sq_bad, sq_ite, fn_nx, fn_rt, fn_exc, fn_bad, fn_ite, v_mkF, v_seq, v_next, v_retN, v_brk, v_cont, v_raise, v_frz, v_bin, v_op1, v_c, v_nil, v_cons, v_consO, v_call, v_test, v_not, v_and, v_or, v_if, bol_b, v_andV, v_orV, v_notV, v_chain, v_lst, v_tup, szR_0, szR_1, szR_2, szR_3, szR_4, szR_5, szR_6, szR_7, szR_8, szR_9, szR_10, szR_11, szR_12, szR_13, szR_14, v_L, v_mu, v_Q, v_P0, iOf_i, v_P, v_sl, v_meth, v_par, v_ifS, v_set, v_setOw, v_ret, v_drop, v_for, v_lam, oCatL_le, oCatQ_le, oAdd_l, oAdd_t, oMul_l2, oMul_l3, oMul_l4, oMul_l5, Nat.reduceLeDiff, oItems_l, oItems_t, oItems_s, oItemsQ_i, oSl_l, oSl_t, oSl_sc, oTupOf_i, oLstOf_i, oSum_i, oAll_i, oAny_i, oMod_p, oDiv_p, oMul_L, oMul_R, oPow_6, oPow_12, oPow_18, oPow_20, oPow_36, oInt_i, oInt_b, oAbs_i, oLen_l, oLen_t, oLenQ_i, oIx_mu, at_0, at_1, at_2, at_3, at_4, at_5, ix5_0, ix5_1, ix5_2, ix5_3, ix5_4, Int.reduceLT, Int.reduceNeg, Int.reduceAdd, Int.reduceSub, Int.reduceMul, oAdd_i, oSub_i, oNeg_i, oLt_i, oLe_i, oGt_i, oGe_i, oMin_i, oMax_i, oEq_i, oNe_i, oEq_s, oNe_s, oIxQ_i, oIx_l, oIx_t, asB_b, asQ_l, asQ_t, v_var, var_fz, v_app, app_ow, v_ext, ext_ow, v_frzE, frs_ow, frs_fz, v_own, own_fl, own_ft, own_ow, own_sh, lp_nx, lp_ct, lp_bk, lp_rt, lp_exc, lp_bad, lp_ite, ag_some, ag_none, fl_nil, fl_cons, g_N, g_nil, g_cons, g_T, o_some, v_asg, v_try, try_exc, try_nx, try_rt, trE_rt, trE_nx, v_thkE, v_thkR, thk_rv, said_nx, said_rt, v_isE, isE_rv, v_wipeR, v_callL, callL_fn, lkL_some, v_store, may_ow, may_fz, may_t, sto_ow, sto_mu, ixO_s, List.getElem?_cons_succ, List.getElem?_cons_zero, List.set_cons_succ, List.set_cons_zero, startE, List.zipWith, List.replicate, List.length_cons, List.length_nil, List.cons_append, List.nil_append, setE, Nat.reduceSub, Nat.reduceAdd, if_true, if_false, ite_true, ite_false, Bool.not_true, Bool.not_false, Bool.false_eq_true,
           e_is_within (d := .int (p : Int)) rfl, inR_i (lo := 0) (hi := 5) (i := (p : Int)) (by omega) (by omega)]
  have q2 : q_is_row_1 [.fz (plc ps), .fz (.int 6), .un, .un] s = .ok (((ps.zip (ps.drop 1)).filter fun _ => true).map fun _ => PyData.bool true) s := by
    refine comp_map (xs := ps.zip (ps.drop 1)) (f := fun p : Nat × Nat => PyData.tuple [.int (p.1 : Int), .int (p.2 : Int)]) (s1 := s) (fun _ => true) _ ?_ (by rw [List.length_zip]; omega) fun p hq => ⟨_, rfl, rfl, fun _ => ?_⟩
    · unfold plc
      have ec : cutL (ps.map fun p : Nat => PyData.int (p : Int)) (some 1) none = (ps.drop 1).map fun p : Nat => PyData.int (p : Int) := by
        rw [show (1 : Int) = ((1 : Nat) : Int) from rfl, cut_l, List.map_drop]
      simp (config := {implicitDefEqProofs := false}) only [b_ok, b_exc, b_bad, b_ite, l_some, l_none, of_ok, of_exc, of_bad, of_ite, sq_nx, sq_rt, sq_bk, sq_ct, sq_exc, sq_bad, sq_ite, fn_nx, fn_rt, fn_exc, fn_bad, fn_ite, v_mkF, v_seq, v_next, v_retN, v_brk, v_cont, v_raise, v_frz, v_bin, v_op1, v_c, v_nil, v_cons, v_consO, v_call, v_test, v_not, v_and, v_or, v_if, bol_b, v_andV, v_orV, v_notV, v_chain, v_lst, v_tup, szR_0, szR_1, szR_2, szR_3, szR_4, szR_5, szR_6, szR_7, szR_8, szR_9, szR_10, szR_11, szR_12, szR_13, szR_14, v_L, v_mu, v_Q, v_P0, iOf_i, v_P, v_sl, v_meth, v_par, v_ifS, v_set, v_setOw, v_ret, v_drop, v_for, v_lam, oCatL_le, oCatQ_le, oAdd_l, oAdd_t, oMul_l2, oMul_l3, oMul_l4, oMul_l5, Nat.reduceLeDiff, oItems_l, oItems_t, oItems_s, oItemsQ_i, oSl_l, oSl_t, oSl_sc, oTupOf_i, oLstOf_i, oSum_i, oAll_i, oAny_i, oMod_p, oDiv_p, oMul_L, oMul_R, oPow_6, oPow_12, oPow_18, oPow_20, oPow_36, oInt_i, oInt_b, oAbs_i, oLen_l, oLen_t, oLenQ_i, oIx_mu, at_0, at_1, at_2, at_3, at_4, at_5, ix5_0, ix5_1, ix5_2, ix5_3, ix5_4, Int.reduceLT, Int.reduceNeg, Int.reduceAdd, Int.reduceSub, Int.reduceMul, oAdd_i, oSub_i, oNeg_i, oLt_i, oLe_i, oGt_i, oGe_i, oMin_i, oMax_i, oEq_i, oNe_i, oEq_s, oNe_s, oIxQ_i, oIx_l, oIx_t, asB_b, asQ_l, asQ_t, v_var, var_fz, v_app, app_ow, v_ext, ext_ow, v_frzE, frs_ow, frs_fz, v_own, own_fl, own_ft, own_ow, own_sh, lp_nx, lp_ct, lp_bk, lp_rt, lp_exc, lp_bad, lp_ite, ag_some, ag_none, fl_nil, fl_cons, g_N, g_nil, g_cons, g_T, o_some, v_asg, v_try, try_exc, try_nx, try_rt, trE_rt, trE_nx, v_thkE, v_thkR, thk_rv, said_nx, said_rt, v_isE, isE_rv, v_wipeR, v_callL, callL_fn, lkL_some, v_store, may_ow, may_fz, may_t, sto_ow, sto_mu, ixO_s, List.getElem?_cons_succ, List.getElem?_cons_zero, List.set_cons_succ, List.set_cons_zero, startE, List.zipWith, List.replicate, List.length_cons, List.length_nil, List.cons_append, List.nil_append, setE, Nat.reduceSub, Nat.reduceAdd, if_true, if_false, ite_true, ite_false, Bool.not_true, Bool.not_false, Bool.false_eq_true,
             v_src, oZipS_i, ec]
      rw [zipD_map]
    · have hlt : p.1 < p.2 := by
        match ps, h3, hw, hq with
        | [], _, _, hq => simp at hq
        | [a], _, _, hq => simp at hq
        | [a, b], _, hw, hq => simp at hq hw; subst hq; exact hw
        | [a, b, c], _, hw, hq =>
          simp at hq hw
          rcases hq with rfl | rfl
          · exact hw.1.1
          · exact hw.2
      dsimp only [wipeE]
      simp (config := {implicitDefEqProofs := false}) only [b_ok, b_exc, b_bad, b_ite, l_some, l_none, of_ok, of_exc, of_bad, of_ite, sq_nx, sq_rt, sq_bk, sq_ct, sq_exc, sq_bad, sq_ite, fn_nx, fn_rt, fn_exc, fn_bad, fn_ite, v_mkF, v_seq, v_next, v_retN, v_brk, v_cont, v_raise, v_frz, v_bin, v_op1, v_c, v_nil, v_cons, v_consO, v_call, v_test, v_not, v_and, v_or, v_if, bol_b, v_andV, v_orV, v_notV, v_chain, v_lst, v_tup, szR_0, szR_1, szR_2, szR_3, szR_4, szR_5, szR_6, szR_7, szR_8, szR_9, szR_10, szR_11, szR_12, szR_13, szR_14, v_L, v_mu, v_Q, v_P0, iOf_i, v_P, v_sl, v_meth, v_par, v_ifS, v_set, v_setOw, v_ret, v_drop, v_for, v_lam, oCatL_le, oCatQ_le, oAdd_l, oAdd_t, oMul_l2, oMul_l3, oMul_l4, oMul_l5, Nat.reduceLeDiff, oItems_l, oItems_t, oItems_s, oItemsQ_i, oSl_l, oSl_t, oSl_sc, oTupOf_i, oLstOf_i, oSum_i, oAll_i, oAny_i, oMod_p, oDiv_p, oMul_L, oMul_R, oPow_6, oPow_12, oPow_18, oPow_20, oPow_36, oInt_i, oInt_b, oAbs_i, oLen_l, oLen_t, oLenQ_i, oIx_mu, at_0, at_1, at_2, at_3, at_4, at_5, ix5_0, ix5_1, ix5_2, ix5_3, ix5_4, Int.reduceLT, Int.reduceNeg, Int.reduceAdd, Int.reduceSub, Int.reduceMul, oAdd_i, oSub_i, oNeg_i, oLt_i, oLe_i, oGt_i, oGe_i, oMin_i, oMax_i, oEq_i, oNe_i, oEq_s, oNe_s, oIxQ_i, oIx_l, oIx_t, asB_b, asQ_l, asQ_t, v_var, var_fz, v_app, app_ow, v_ext, ext_ow, v_frzE, frs_ow, frs_fz, v_own, own_fl, own_ft, own_ow, own_sh, lp_nx, lp_ct, lp_bk, lp_rt, lp_exc, lp_bad, lp_ite, ag_some, ag_none, fl_nil, fl_cons, g_N, g_nil, g_cons, g_T, o_some, v_asg, v_try, try_exc, try_nx, try_rt, trE_rt, trE_nx, v_thkE, v_thkR, thk_rv, said_nx, said_rt, v_isE, isE_rv, v_wipeR, v_callL, callL_fn, lkL_some, v_store, may_ow, may_fz, may_t, sto_ow, sto_mu, ixO_s, List.getElem?_cons_succ, List.getElem?_cons_zero, List.set_cons_succ, List.set_cons_zero, startE, List.zipWith, List.replicate, List.length_cons, List.length_nil, List.cons_append, List.nil_append, setE, Nat.reduceSub, Nat.reduceAdd, if_true, if_false, ite_true, ite_false, Bool.not_true, Bool.not_false, Bool.false_eq_true,
             show ((p.1 : Nat) : Int) < ((p.2 : Nat) : Int) by omega, decide_true]
  have e1 := e ps
  have e2 := e (ps.zip (ps.drop 1))
  rw [e1] at q1
  rw [e2] at q2
  have a1 : oAll (false, ps.map fun _ => PyData.bool true) s = some (.bool true) := by
    have := oAll_t (n := 0) (b := true) (s := s) (ps.map fun _ => true) (fun x hx => by obtain ⟨_, _, e⟩ := List.mem_map.mp hx; exact e.symm)
    rw [List.map_map] at this
    exact this
  have a2 : oAll (false, (ps.zip (ps.drop 1)).map fun _ => PyData.bool true) s = some (.bool true) := by
    have := oAll_t (n := 0) (b := true) (s := s) ((ps.zip (ps.drop 1)).map fun _ => true) (fun x hx => by obtain ⟨_, _, e⟩ := List.mem_map.mp hx; exact e.symm)
    rw [List.map_map] at this
    exact this
  have ki : oIsi "tuple" (plc ps) s = some (.bool true) := by unfold plc oIsi; rfl
  have eb : mf_are_below [plc ps, .int 6] s = .ok (.bool true) s := by
    unfold mf_are_below m_are_below
    simp (config := {implicitDefEqProofs := false}) only [b_ok, b_exc, b_bad, b_ite, l_some, l_none, of_ok, of_exc, of_bad, of_ite, sq_nx, sq_rt, sq_bk, sq_ct, sq_exc, sq_bad, sq_ite, fn_nx, fn_rt, fn_exc, fn_bad, fn_ite, v_mkF, v_seq, v_next, v_retN, v_brk, v_cont, v_raise, v_frz, v_bin, v_op1, v_c, v_nil, v_cons, v_consO, v_call, v_test, v_not, v_and, v_or, v_if, bol_b, v_andV, v_orV, v_notV, v_chain, v_lst, v_tup, szR_0, szR_1, szR_2, szR_3, szR_4, szR_5, szR_6, szR_7, szR_8, szR_9, szR_10, szR_11, szR_12, szR_13, szR_14, v_L, v_mu, v_Q, v_P0, iOf_i, v_P, v_sl, v_meth, v_par, v_ifS, v_set, v_setOw, v_ret, v_drop, v_for, v_lam, oCatL_le, oCatQ_le, oAdd_l, oAdd_t, oMul_l2, oMul_l3, oMul_l4, oMul_l5, Nat.reduceLeDiff, oItems_l, oItems_t, oItems_s, oItemsQ_i, oSl_l, oSl_t, oSl_sc, oTupOf_i, oLstOf_i, oSum_i, oAll_i, oAny_i, oMod_p, oDiv_p, oMul_L, oMul_R, oPow_6, oPow_12, oPow_18, oPow_20, oPow_36, oInt_i, oInt_b, oAbs_i, oLen_l, oLen_t, oLenQ_i, oIx_mu, at_0, at_1, at_2, at_3, at_4, at_5, ix5_0, ix5_1, ix5_2, ix5_3, ix5_4, Int.reduceLT, Int.reduceNeg, Int.reduceAdd, Int.reduceSub, Int.reduceMul, oAdd_i, oSub_i, oNeg_i, oLt_i, oLe_i, oGt_i, oGe_i, oMin_i, oMax_i, oEq_i, oNe_i, oEq_s, oNe_s, oIxQ_i, oIx_l, oIx_t, asB_b, asQ_l, asQ_t, v_var, var_fz, v_app, app_ow, v_ext, ext_ow, v_frzE, frs_ow, frs_fz, v_own, own_fl, own_ft, own_ow, own_sh, lp_nx, lp_ct, lp_bk, lp_rt, lp_exc, lp_bad, lp_ite, ag_some, ag_none, fl_nil, fl_cons, g_N, g_nil, g_cons, g_T, o_some, v_asg, v_try, try_exc, try_nx, try_rt, trE_rt, trE_nx, v_thkE, v_thkR, thk_rv, said_nx, said_rt, v_isE, isE_rv, v_wipeR, v_callL, callL_fn, lkL_some, v_store, may_ow, may_fz, may_t, sto_ow, sto_mu, ixO_s, List.getElem?_cons_succ, List.getElem?_cons_zero, List.set_cons_succ, List.set_cons_zero, startE, List.zipWith, List.replicate, List.length_cons, List.length_nil, List.cons_append, List.nil_append, setE, Nat.reduceSub, Nat.reduceAdd, if_true, if_false, ite_true, ite_false, Bool.not_true, Bool.not_false, Bool.false_eq_true,
           ki, q1, a1]
  unfold mf_is_row m_is_row
  simp (config := {implicitDefEqProofs := false}) only [b_ok, b_exc, b_bad, b_ite, l_some, l_none, of_ok, of_exc, of_bad, of_ite, sq_nx, sq_rt, sq_bk, sq_ct, sq_exc, sq_bad, sq_ite, fn_nx, fn_rt, fn_exc, fn_bad, fn_ite, v_mkF, v_seq, v_next, v_retN, v_brk, v_cont, v_raise, v_frz, v_bin, v_op1, v_c, v_nil, v_cons, v_consO, v_call, v_test, v_not, v_and, v_or, v_if, bol_b, v_andV, v_orV, v_notV, v_chain, v_lst, v_tup, szR_0, szR_1, szR_2, szR_3, szR_4, szR_5, szR_6, szR_7, szR_8, szR_9, szR_10, szR_11, szR_12, szR_13, szR_14, v_L, v_mu, v_Q, v_P0, iOf_i, v_P, v_sl, v_meth, v_par, v_ifS, v_set, v_setOw, v_ret, v_drop, v_for, v_lam, oCatL_le, oCatQ_le, oAdd_l, oAdd_t, oMul_l2, oMul_l3, oMul_l4, oMul_l5, Nat.reduceLeDiff, oItems_l, oItems_t, oItems_s, oItemsQ_i, oSl_l, oSl_t, oSl_sc, oTupOf_i, oLstOf_i, oSum_i, oAll_i, oAny_i, oMod_p, oDiv_p, oMul_L, oMul_R, oPow_6, oPow_12, oPow_18, oPow_20, oPow_36, oInt_i, oInt_b, oAbs_i, oLen_l, oLen_t, oLenQ_i, oIx_mu, at_0, at_1, at_2, at_3, at_4, at_5, ix5_0, ix5_1, ix5_2, ix5_3, ix5_4, Int.reduceLT, Int.reduceNeg, Int.reduceAdd, Int.reduceSub, Int.reduceMul, oAdd_i, oSub_i, oNeg_i, oLt_i, oLe_i, oGt_i, oGe_i, oMin_i, oMax_i, oEq_i, oNe_i, oEq_s, oNe_s, oIxQ_i, oIx_l, oIx_t, asB_b, asQ_l, asQ_t, v_var, var_fz, v_app, app_ow, v_ext, ext_ow, v_frzE, frs_ow, frs_fz, v_own, own_fl, own_ft, own_ow, own_sh, lp_nx, lp_ct, lp_bk, lp_rt, lp_exc, lp_bad, lp_ite, ag_some, ag_none, fl_nil, fl_cons, g_N, g_nil, g_cons, g_T, o_some, v_asg, v_try, try_exc, try_nx, try_rt, trE_rt, trE_nx, v_thkE, v_thkR, thk_rv, said_nx, said_rt, v_isE, isE_rv, v_wipeR, v_callL, callL_fn, lkL_some, v_store, may_ow, may_fz, may_t, sto_ow, sto_mu, ixO_s, List.getElem?_cons_succ, List.getElem?_cons_zero, List.set_cons_succ, List.set_cons_zero, startE, List.zipWith, List.replicate, List.length_cons, List.length_nil, List.cons_append, List.nil_append, setE, Nat.reduceSub, Nat.reduceAdd, if_true, if_false, ite_true, ite_false, Bool.not_true, Bool.not_false, Bool.false_eq_true,
         eb, q2, a2]
theorem e_worn {z : Str} (h : six z = true) (g : gd z = true) {ps : List Nat} (hp : ∀ p ∈ ps, p < 6) (h3 : ps.length ≤ 3) (hw : ps.Pairwise (· < ·)) (s : S) : mf_worn [.str z, plc ps] s = .ok (.tuple ((W z ps).map .str)) s ∧ mf__law_worn [.str z, plc ps] s = .ok (.tuple ((W z ps).map .str)) s := by
  obtain ⟨a, b⟩ := grows_six h _ ps rfl hp
  have hb : (grows z ps).length ≤ 1000 := by
    rw [b]
    have := Nat.pow_le_pow_right (show 0 < 10 by decide) h3
    omega
  have e3 : ¬ ((3 : Int) < (ps.length : Int)) := by omega
  refine ⟨?_, ?_⟩
  · obtain ⟨x3, x4, x5, k⟩ := loop_worn h hp h3 s (plc ps)
    unfold mf_worn m_worn
    have ir := e_row hp h3 hw s
    unfold plc at ir k ⊢
    simp (config := {implicitDefEqProofs := false}) only [b_ok, b_exc, b_bad, b_ite, l_some, l_none, of_ok, of_exc, of_bad, of_ite, sq_nx, sq_rt, sq_bk, sq_ct, sq_exc, sq_bad, sq_ite, fn_nx, fn_rt, fn_exc, fn_bad, fn_ite, v_mkF, v_seq, v_next, v_retN, v_brk, v_cont, v_raise, v_frz, v_bin, v_op1, v_c, v_nil, v_cons, v_consO, v_call, v_test, v_not, v_and, v_or, v_if, bol_b, v_andV, v_orV, v_notV, v_chain, v_lst, v_tup, szR_0, szR_1, szR_2, szR_3, szR_4, szR_5, szR_6, szR_7, szR_8, szR_9, szR_10, szR_11, szR_12, szR_13, szR_14, v_L, v_mu, v_Q, v_P0, iOf_i, v_P, v_sl, v_meth, v_par, v_ifS, v_set, v_setOw, v_ret, v_drop, v_for, v_lam, oCatL_le, oCatQ_le, oAdd_l, oAdd_t, oMul_l2, oMul_l3, oMul_l4, oMul_l5, Nat.reduceLeDiff, oItems_l, oItems_t, oItems_s, oItemsQ_i, oSl_l, oSl_t, oSl_sc, oTupOf_i, oLstOf_i, oSum_i, oAll_i, oAny_i, oMod_p, oDiv_p, oMul_L, oMul_R, oPow_6, oPow_12, oPow_18, oPow_20, oPow_36, oInt_i, oInt_b, oAbs_i, oLen_l, oLen_t, oLenQ_i, oIx_mu, at_0, at_1, at_2, at_3, at_4, at_5, ix5_0, ix5_1, ix5_2, ix5_3, ix5_4, Int.reduceLT, Int.reduceNeg, Int.reduceAdd, Int.reduceSub, Int.reduceMul, oAdd_i, oSub_i, oNeg_i, oLt_i, oLe_i, oGt_i, oGe_i, oMin_i, oMax_i, oEq_i, oNe_i, oEq_s, oNe_s, oIxQ_i, oIx_l, oIx_t, asB_b, asQ_l, asQ_t, v_var, var_fz, v_app, app_ow, v_ext, ext_ow, v_frzE, frs_ow, frs_fz, v_own, own_fl, own_ft, own_ow, own_sh, lp_nx, lp_ct, lp_bk, lp_rt, lp_exc, lp_bad, lp_ite, ag_some, ag_none, fl_nil, fl_cons, g_N, g_nil, g_cons, g_T, o_some, v_asg, v_try, try_exc, try_nx, try_rt, trE_rt, trE_nx, v_thkE, v_thkR, thk_rv, said_nx, said_rt, v_isE, isE_rv, v_wipeR, v_callL, callL_fn, lkL_some, v_store, may_ow, may_fz, may_t, sto_ow, sto_mu, ixO_s, List.getElem?_cons_succ, List.getElem?_cons_zero, List.set_cons_succ, List.set_cons_zero, startE, List.zipWith, List.replicate, List.length_cons, List.length_nil, List.cons_append, List.nil_append, setE, Nat.reduceSub, Nat.reduceAdd, if_true, if_false, ite_true, ite_false, Bool.not_true, Bool.not_false, Bool.false_eq_true,
           (e_check h g s).1, ir, List.length_map, gt_iff_lt, e3, decide_false, k, (q_fil a hb s).1, oSortL_s]
    rfl
  · obtain ⟨x3, x4, x5, x6, k⟩ := loop_law h hp h3 s (plc ps)
    unfold mf__law_worn m__law_worn
    unfold plc at k ⊢
    simp (config := {implicitDefEqProofs := false}) only [b_ok, b_exc, b_bad, b_ite, l_some, l_none, of_ok, of_exc, of_bad, of_ite, sq_nx, sq_rt, sq_bk, sq_ct, sq_exc, sq_bad, sq_ite, fn_nx, fn_rt, fn_exc, fn_bad, fn_ite, v_mkF, v_seq, v_next, v_retN, v_brk, v_cont, v_raise, v_frz, v_bin, v_op1, v_c, v_nil, v_cons, v_consO, v_call, v_test, v_not, v_and, v_or, v_if, bol_b, v_andV, v_orV, v_notV, v_chain, v_lst, v_tup, szR_0, szR_1, szR_2, szR_3, szR_4, szR_5, szR_6, szR_7, szR_8, szR_9, szR_10, szR_11, szR_12, szR_13, szR_14, v_L, v_mu, v_Q, v_P0, iOf_i, v_P, v_sl, v_meth, v_par, v_ifS, v_set, v_setOw, v_ret, v_drop, v_for, v_lam, oCatL_le, oCatQ_le, oAdd_l, oAdd_t, oMul_l2, oMul_l3, oMul_l4, oMul_l5, Nat.reduceLeDiff, oItems_l, oItems_t, oItems_s, oItemsQ_i, oSl_l, oSl_t, oSl_sc, oTupOf_i, oLstOf_i, oSum_i, oAll_i, oAny_i, oMod_p, oDiv_p, oMul_L, oMul_R, oPow_6, oPow_12, oPow_18, oPow_20, oPow_36, oInt_i, oInt_b, oAbs_i, oLen_l, oLen_t, oLenQ_i, oIx_mu, at_0, at_1, at_2, at_3, at_4, at_5, ix5_0, ix5_1, ix5_2, ix5_3, ix5_4, Int.reduceLT, Int.reduceNeg, Int.reduceAdd, Int.reduceSub, Int.reduceMul, oAdd_i, oSub_i, oNeg_i, oLt_i, oLe_i, oGt_i, oGe_i, oMin_i, oMax_i, oEq_i, oNe_i, oEq_s, oNe_s, oIxQ_i, oIx_l, oIx_t, asB_b, asQ_l, asQ_t, v_var, var_fz, v_app, app_ow, v_ext, ext_ow, v_frzE, frs_ow, frs_fz, v_own, own_fl, own_ft, own_ow, own_sh, lp_nx, lp_ct, lp_bk, lp_rt, lp_exc, lp_bad, lp_ite, ag_some, ag_none, fl_nil, fl_cons, g_N, g_nil, g_cons, g_T, o_some, v_asg, v_try, try_exc, try_nx, try_rt, trE_rt, trE_nx, v_thkE, v_thkR, thk_rv, said_nx, said_rt, v_isE, isE_rv, v_wipeR, v_callL, callL_fn, lkL_some, v_store, may_ow, may_fz, may_t, sto_ow, sto_mu, ixO_s, List.getElem?_cons_succ, List.getElem?_cons_zero, List.set_cons_succ, List.set_cons_zero, startE, List.zipWith, List.replicate, List.length_cons, List.length_nil, List.cons_append, List.nil_append, setE, Nat.reduceSub, Nat.reduceAdd, if_true, if_false, ite_true, ite_false, Bool.not_true, Bool.not_false, Bool.false_eq_true,
           k, (q_fil a hb s).2, oSortL_s]
    rfl
theorem W_gd {z : Str} (h : six z = true) {ps : List Nat} (hp : ∀ p ∈ ps, p < 6) : ∀ x ∈ W z ps, six x = true ∧ gd x = true := fun x hx => by
  unfold W at hx
  have := (List.mergeSort_perm _ _).mem_iff.mp hx
  obtain ⟨k1, k2⟩ := List.mem_filter.mp this
  exact ⟨(grows_six h _ ps rfl hp).1 x k1, k2⟩
theorem W_nil {z : Str} (g : gd z = true) : W z [] = [z] := by
  unfold W grows
  rw [List.foldl_nil, List.filter_cons_of_pos g, List.filter_nil]
  exact List.mergeSort_singleton z
end K76

set_option Elab.async false
set_option maxRecDepth 100000
set_option maxHeartbeats 1000000
set_option linter.all false
namespace K76
open PySem Dn
/-! ### a number's mark -/
def jK (d : D) (acc : Str) (k : Str → R Str) : R Str := match d with
  | .str y => if (acc ++ y).length ≤ sizeLine then k (acc ++ y) else .bad
  | _ => .bad
theorem jK_s {y acc : Str} {k : Str → R Str} (h : (acc ++ y).length ≤ 1000000) : jK (.str y) acc k = k (acc ++ y) := if_pos (Nat.le_trans h (by rw [sizeLine_eq]; decide))
theorem v_jn {ms : List (M D)} {env : En} {s : S} : mJoin ms env s = (mJoinL ms Str.empty env s).bind fun z s' => .ok (.str z) s' := rfl
theorem v_j0 {acc : Str} {env : En} {s : S} : mJoinL [] acc env s = .ok acc s := rfl
theorem v_j1 {m : M D} {ms : List (M D)} {acc : Str} {env : En} {s : S} : mJoinL (m :: ms) acc env s = (m env s).bind fun d s1 => jK d acc fun z => mJoinL ms z env s1 := by
  show ((m env s).bind fun d s1 => match d with | .str y => if (acc ++ y).length ≤ sizeLine then mJoinL ms (acc ++ y) env s1 else .bad | _ => .bad) = _
  congr 1 <;> (funext d s1; unfold jK; cases d <;> rfl)
def markS (y m : Nat) (d : Int) : Str := two02 (d + 1) ++ two02 ((m : Int) + 1) ++ two02 (y : Int)
theorem two_S2 {i : Int} (h0 : 0 ≤ i) (h1 : i < 100) : ∃ a b, two02 i = S2 a b ∧ (48 ≤ a ∧ a ≤ 57) ∧ (48 ≤ b ∧ b ≤ 57) ∧ intText? (S2 a b) = some i := by
  obtain ⟨k, rfl⟩ : ∃ k : Fin 100, i = ((k.val : Nat) : Int) := ⟨⟨i.toNat, by omega⟩, by show i = ((i.toNat : Nat) : Int); omega⟩
  have hl := two_len k
  have hd := two_dig k
  have hi := two_int k
  generalize two02 ((k.val : Nat) : Int) = z at hl hd hi
  cases z with
  | mk arr =>
    cases arr with
    | mk l =>
      match l, hl with
      | [a, b], _ => exact ⟨a, b, rfl, hd a (by simp), hd b (by simp), hi⟩
theorem two_len' {i : Int} (h0 : 0 ≤ i) (h1 : i < 100) : (two02 i).length = 2 := by
  obtain ⟨a, b, e, _⟩ := two_S2 h0 h1
  rw [e]
  rfl
theorem date_mk {n : Int} {y m : Nat} {d : Int} (h : Date n y m d) : ∃ k : Nat, (k : Int) = d + 1 ∧ Mk (markS y m d) k (m + 1) y ∧ 1 ≤ k ∧ (k : Int) ≤ ml ((m : Int) + 1) y := by
  have h1 := h.d0
  have h2 := h.d1
  have h3 := ml0 ((m : Int) + 1) y
  have hm := h.m1
  have hy := h.y1
  unfold fm at h2
  obtain ⟨a, b, e1, da, db, i1⟩ := two_S2 (i := d + 1) (by omega) (by omega)
  obtain ⟨c, d', e2, dc, dd, i2⟩ := two_S2 (i := (m : Int) + 1) (by omega) (by omega)
  obtain ⟨e, f, e3, de, df, i3⟩ := two_S2 (i := (y : Int)) (by omega) (by omega)
  refine ⟨(d + 1).toNat, by omega, ⟨⟨a, b, c, d', e, f, ?_, ?_, ?_, ?_, ?_⟩, by omega, by omega, by omega⟩, by omega, by omega⟩
  · unfold markS
    rw [e1, e2, e3]
    rfl
  · intro x hx
    simp only [List.mem_cons, List.mem_nil_iff, or_false] at hx
    rcases hx with rfl | rfl | rfl | rfl | rfl | rfl
    · exact da
    · exact db
    · exact dc
    · exact dd
    · exact de
    · exact df
  · rw [i1]; congr 1; omega
  · rw [i2]; congr 1
  · rw [i3]
theorem date_good {n : Int} {y m : Nat} {d : Int} (h : Date n y m d) {k : Nat} (h1 : 1 ≤ k) (h2 : (k : Int) ≤ ml ((m : Int) + 1) y) : good3 k (m + 1) y = true := by
  have := h.m1
  unfold good3
  rw [decide_eq_true (show (1 : Int) ≤ ((m + 1 : Nat) : Int) by omega), decide_eq_true (show ((m + 1 : Nat) : Int) ≤ 12 by omega), decide_eq_true (show (1 : Int) ≤ (k : Int) by omega), decide_eq_true (show (k : Int) ≤ ml ((m + 1 : Nat) : Int) y from h2)]
  rfl
theorem mark_len {n : Int} {y m : Nat} {d : Int} (h : Date n y m d) : (markS y m d).length = 6 := by
  obtain ⟨k, _, hm, _⟩ := date_mk h
  exact mk_len hm
theorem q_all (s : S) (x0 x2 : Sl) : q_mark_of_1 [x0, .un, x2] s = .ok ((List.range 100).map fun k => PyData.int (fy k)) s := by
  have e : ∀ xs : List Nat, xs.filter (fun _ => true) = xs := fun xs => List.filter_eq_self.mpr fun _ _ => rfl
  have hr : oRng1 (.int 100) s = some ((List.range 100).map fun k : Nat => .int (0 + (k : Int))) := rng1_n (n := 100) (by omega)
  have := comp_map (src := mOp1 oRng1 (mC (.int 100))) (vs := [1]) (asg := gN 1) (test := mTrue) (elt := mCall mf_year_days (mCons (mVar 1) (mNil))) (env := [x0, .un, x2]) (s := s) (s1 := s) (xs := List.range 100) (f := fun k : Nat => .int (0 + (k : Int))) (fun _ => true) (fun k => .int (fy k)) (by simp (config := {implicitDefEqProofs := false}) only [b_ok, b_exc, b_bad, b_ite, l_some, l_none, of_ok, of_exc, of_bad, of_ite, sq_nx, sq_rt, sq_bk, sq_ct, sq_exc, sq_bad, sq_ite, fn_nx, fn_rt, fn_exc, fn_bad, fn_ite, v_mkF, v_seq, v_next, v_retN, v_brk, v_cont, v_raise, v_frz, v_bin, v_op1, v_c, v_nil, v_cons, v_consO, v_call, v_test, v_not, v_and, v_or, v_if, bol_b, v_andV, v_orV, v_notV, v_chain, v_lst, v_tup, szR_0, szR_1, szR_2, szR_3, szR_4, szR_5, szR_6, szR_7, szR_8, szR_9, szR_10, szR_11, szR_12, szR_13, szR_14, v_L, v_mu, v_Q, v_P0, iOf_i, v_P, v_sl, v_meth, v_par, v_ifS, v_set, v_setOw, v_ret, v_drop, v_for, v_lam, oCatL_le, oCatQ_le, oAdd_l, oAdd_t, oMul_l2, oMul_l3, oMul_l4, oMul_l5, Nat.reduceLeDiff, oItems_l, oItems_t, oItems_s, oItemsQ_i, oSl_l, oSl_t, oSl_sc, oTupOf_i, oLstOf_i, oSum_i, oAll_i, oAny_i, oMod_p, oDiv_p, oMul_L, oMul_R, oPow_6, oPow_12, oPow_18, oPow_20, oPow_36, oInt_i, oInt_b, oAbs_i, oLen_l, oLen_t, oLenQ_i, oIx_mu, at_0, at_1, at_2, at_3, at_4, at_5, ix5_0, ix5_1, ix5_2, ix5_3, ix5_4, Int.reduceLT, Int.reduceNeg, Int.reduceAdd, Int.reduceSub, Int.reduceMul, oAdd_i, oSub_i, oNeg_i, oLt_i, oLe_i, oGt_i, oGe_i, oMin_i, oMax_i, oEq_i, oNe_i, oEq_s, oNe_s, oIxQ_i, oIx_l, oIx_t, asB_b, asQ_l, asQ_t, v_var, var_fz, v_app, app_ow, v_ext, ext_ow, v_frzE, frs_ow, frs_fz, v_own, own_fl, own_ft, own_ow, own_sh, lp_nx, lp_ct, lp_bk, lp_rt, lp_exc, lp_bad, lp_ite, ag_some, ag_none, fl_nil, fl_cons, g_N, g_nil, g_cons, g_T, o_some, v_asg, v_try, try_exc, try_nx, try_rt, trE_rt, trE_nx, v_thkE, v_thkR, thk_rv, said_nx, said_rt, v_isE, isE_rv, v_wipeR, v_callL, callL_fn, lkL_some, v_store, may_ow, may_fz, may_t, sto_ow, sto_mu, ixO_s, List.getElem?_cons_succ, List.getElem?_cons_zero, List.set_cons_succ, List.set_cons_zero, startE, List.zipWith, List.replicate, List.length_cons, List.length_nil, List.cons_append, List.nil_append, setE, Nat.reduceSub, Nat.reduceAdd, if_true, if_false, ite_true, ite_false, Bool.not_true, Bool.not_false, Bool.false_eq_true,
                                                                                                                                                                                                                                                                                                                   hr]) (by simp) (fun k hk => ⟨_, rfl, rfl, fun _ => by
      dsimp only [wipeE]
      simp (config := {implicitDefEqProofs := false}) only [b_ok, b_exc, b_bad, b_ite, l_some, l_none, of_ok, of_exc, of_bad, of_ite, sq_nx, sq_rt, sq_bk, sq_ct, sq_exc, sq_bad, sq_ite, fn_nx, fn_rt, fn_exc, fn_bad, fn_ite, v_mkF, v_seq, v_next, v_retN, v_brk, v_cont, v_raise, v_frz, v_bin, v_op1, v_c, v_nil, v_cons, v_consO, v_call, v_test, v_not, v_and, v_or, v_if, bol_b, v_andV, v_orV, v_notV, v_chain, v_lst, v_tup, szR_0, szR_1, szR_2, szR_3, szR_4, szR_5, szR_6, szR_7, szR_8, szR_9, szR_10, szR_11, szR_12, szR_13, szR_14, v_L, v_mu, v_Q, v_P0, iOf_i, v_P, v_sl, v_meth, v_par, v_ifS, v_set, v_setOw, v_ret, v_drop, v_for, v_lam, oCatL_le, oCatQ_le, oAdd_l, oAdd_t, oMul_l2, oMul_l3, oMul_l4, oMul_l5, Nat.reduceLeDiff, oItems_l, oItems_t, oItems_s, oItemsQ_i, oSl_l, oSl_t, oSl_sc, oTupOf_i, oLstOf_i, oSum_i, oAll_i, oAny_i, oMod_p, oDiv_p, oMul_L, oMul_R, oPow_6, oPow_12, oPow_18, oPow_20, oPow_36, oInt_i, oInt_b, oAbs_i, oLen_l, oLen_t, oLenQ_i, oIx_mu, at_0, at_1, at_2, at_3, at_4, at_5, ix5_0, ix5_1, ix5_2, ix5_3, ix5_4, Int.reduceLT, Int.reduceNeg, Int.reduceAdd, Int.reduceSub, Int.reduceMul, oAdd_i, oSub_i, oNeg_i, oLt_i, oLe_i, oGt_i, oGe_i, oMin_i, oMax_i, oEq_i, oNe_i, oEq_s, oNe_s, oIxQ_i, oIx_l, oIx_t, asB_b, asQ_l, asQ_t, v_var, var_fz, v_app, app_ow, v_ext, ext_ow, v_frzE, frs_ow, frs_fz, v_own, own_fl, own_ft, own_ow, own_sh, lp_nx, lp_ct, lp_bk, lp_rt, lp_exc, lp_bad, lp_ite, ag_some, ag_none, fl_nil, fl_cons, g_N, g_nil, g_cons, g_T, o_some, v_asg, v_try, try_exc, try_nx, try_rt, trE_rt, trE_nx, v_thkE, v_thkR, thk_rv, said_nx, said_rt, v_isE, isE_rv, v_wipeR, v_callL, callL_fn, lkL_some, v_store, may_ow, may_fz, may_t, sto_ow, sto_mu, ixO_s, List.getElem?_cons_succ, List.getElem?_cons_zero, List.set_cons_succ, List.set_cons_zero, startE, List.zipWith, List.replicate, List.length_cons, List.length_nil, List.cons_append, List.nil_append, setE, Nat.reduceSub, Nat.reduceAdd, if_true, if_false, ite_true, ite_false, Bool.not_true, Bool.not_false, Bool.false_eq_true,
             e_year_days, Int.zero_add]
      rfl⟩)
  rw [e] at this
  exact this
theorem month_ge {m : Nat} {y : Int} : F (fm y) (m + 1) = F (fm y) m + ml ((m : Int) + 1) y := rfl
theorem year_ge {y : Nat} : F fy (y + 1) = F fy y + yd y := rfl
theorem e_mark_of {n : Int} {y m : Nat} {d : Int} (h : Date n y m d) (hy1 : F fy y ≤ n) (hy2 : n < F fy (y + 1)) (s : S) : mf_mark_of [.int n] s = .ok (.str (markS y m d)) s := by
  have hn0 : 0 ≤ n := by have := F_le fy0 (Nat.zero_le y); have e : F fy 0 = 0 := rfl; omega
  have hn1 : n < 36525 := by have := F_le fy0 (show y + 1 ≤ 100 by have := h.y1; omega); rw [F100] at this; omega
  have hd0 := h.d0
  have hd1 := h.d1
  have hml := ml0 ((m : Int) + 1) y
  unfold fm at hd1
  have hm12 := h.m1
  have hy100 := h.y1
  have eqn := h.eq
  have hM1 : F (fm y) m ≤ n - F fy y := by omega
  have hM2 : n - F fy y < F (fm y) (m + 1) := by rw [month_ge]; omega
  unfold mf_mark_of m_mark_of
  simp (config := {implicitDefEqProofs := false}) only [b_ok, b_exc, b_bad, b_ite, l_some, l_none, of_ok, of_exc, of_bad, of_ite, sq_nx, sq_rt, sq_bk, sq_ct, sq_exc, sq_bad, sq_ite, fn_nx, fn_rt, fn_exc, fn_bad, fn_ite, v_mkF, v_seq, v_next, v_retN, v_brk, v_cont, v_raise, v_frz, v_bin, v_op1, v_c, v_nil, v_cons, v_consO, v_call, v_test, v_not, v_and, v_or, v_if, bol_b, v_andV, v_orV, v_notV, v_chain, v_lst, v_tup, szR_0, szR_1, szR_2, szR_3, szR_4, szR_5, szR_6, szR_7, szR_8, szR_9, szR_10, szR_11, szR_12, szR_13, szR_14, v_L, v_mu, v_Q, v_P0, iOf_i, v_P, v_sl, v_meth, v_par, v_ifS, v_set, v_setOw, v_ret, v_drop, v_for, v_lam, oCatL_le, oCatQ_le, oAdd_l, oAdd_t, oMul_l2, oMul_l3, oMul_l4, oMul_l5, Nat.reduceLeDiff, oItems_l, oItems_t, oItems_s, oItemsQ_i, oSl_l, oSl_t, oSl_sc, oTupOf_i, oLstOf_i, oSum_i, oAll_i, oAny_i, oMod_p, oDiv_p, oMul_L, oMul_R, oPow_6, oPow_12, oPow_18, oPow_20, oPow_36, oInt_i, oInt_b, oAbs_i, oLen_l, oLen_t, oLenQ_i, oIx_mu, at_0, at_1, at_2, at_3, at_4, at_5, ix5_0, ix5_1, ix5_2, ix5_3, ix5_4, Int.reduceLT, Int.reduceNeg, Int.reduceAdd, Int.reduceSub, Int.reduceMul, oAdd_i, oSub_i, oNeg_i, oLt_i, oLe_i, oGt_i, oGe_i, oMin_i, oMax_i, oEq_i, oNe_i, oEq_s, oNe_s, oIxQ_i, oIx_l, oIx_t, asB_b, asQ_l, asQ_t, v_var, var_fz, v_app, app_ow, v_ext, ext_ow, v_frzE, frs_ow, frs_fz, v_own, own_fl, own_ft, own_ow, own_sh, lp_nx, lp_ct, lp_bk, lp_rt, lp_exc, lp_bad, lp_ite, ag_some, ag_none, fl_nil, fl_cons, g_N, g_nil, g_cons, g_T, o_some, v_asg, v_try, try_exc, try_nx, try_rt, trE_rt, trE_nx, v_thkE, v_thkR, thk_rv, said_nx, said_rt, v_isE, isE_rv, v_wipeR, v_callL, callL_fn, lkL_some, v_store, may_ow, may_fz, may_t, sto_ow, sto_mu, ixO_s, List.getElem?_cons_succ, List.getElem?_cons_zero, List.set_cons_succ, List.set_cons_zero, startE, List.zipWith, List.replicate, List.length_cons, List.length_nil, List.cons_append, List.nil_append, setE, Nat.reduceSub, Nat.reduceAdd, if_true, if_false, ite_true, ite_false, Bool.not_true, Bool.not_false, Bool.false_eq_true,
         q_all, oSum_F, F100, e_is_within (d := .int n) rfl, inR_i (lo := 0) (hi := 36524) (i := n) hn0 (by omega)]
  obtain ⟨env', s', h1, h2, h3⟩ := while_inv (c := w_mark_of_3) (b := b_mark_of_2)
    (fun env s' => s' = s ∧ ∃ k : Nat, k ≤ y ∧ env = [.fz (.int (n - F fy k)), .fz (.int k), .fz (.int 1)])
    (fun env => match env with | [_, .fz (.int k), _] => y - k.toNat | _ => 0) (fun env s' hI => by
      obtain ⟨rfl, k, hk, rfl⟩ := hI
      have hge : yd k ≤ n - F fy k ↔ k < y := by
        rw [← lt_iff fy0 hy1 hy2 (j := k), year_ge]; omega
      by_cases q : k = y
      · left
        unfold w_mark_of_3
        simp (config := {implicitDefEqProofs := false}) only [b_ok, b_exc, b_bad, b_ite, l_some, l_none, of_ok, of_exc, of_bad, of_ite, sq_nx, sq_rt, sq_bk, sq_ct, sq_exc, sq_bad, sq_ite, fn_nx, fn_rt, fn_exc, fn_bad, fn_ite, v_mkF, v_seq, v_next, v_retN, v_brk, v_cont, v_raise, v_frz, v_bin, v_op1, v_c, v_nil, v_cons, v_consO, v_call, v_test, v_not, v_and, v_or, v_if, bol_b, v_andV, v_orV, v_notV, v_chain, v_lst, v_tup, szR_0, szR_1, szR_2, szR_3, szR_4, szR_5, szR_6, szR_7, szR_8, szR_9, szR_10, szR_11, szR_12, szR_13, szR_14, v_L, v_mu, v_Q, v_P0, iOf_i, v_P, v_sl, v_meth, v_par, v_ifS, v_set, v_setOw, v_ret, v_drop, v_for, v_lam, oCatL_le, oCatQ_le, oAdd_l, oAdd_t, oMul_l2, oMul_l3, oMul_l4, oMul_l5, Nat.reduceLeDiff, oItems_l, oItems_t, oItems_s, oItemsQ_i, oSl_l, oSl_t, oSl_sc, oTupOf_i, oLstOf_i, oSum_i, oAll_i, oAny_i, oMod_p, oDiv_p, oMul_L, oMul_R, oPow_6, oPow_12, oPow_18, oPow_20, oPow_36, oInt_i, oInt_b, oAbs_i, oLen_l, oLen_t, oLenQ_i, oIx_mu, at_0, at_1, at_2, at_3, at_4, at_5, ix5_0, ix5_1, ix5_2, ix5_3, ix5_4, Int.reduceLT, Int.reduceNeg, Int.reduceAdd, Int.reduceSub, Int.reduceMul, oAdd_i, oSub_i, oNeg_i, oLt_i, oLe_i, oGt_i, oGe_i, oMin_i, oMax_i, oEq_i, oNe_i, oEq_s, oNe_s, oIxQ_i, oIx_l, oIx_t, asB_b, asQ_l, asQ_t, v_var, var_fz, v_app, app_ow, v_ext, ext_ow, v_frzE, frs_ow, frs_fz, v_own, own_fl, own_ft, own_ow, own_sh, lp_nx, lp_ct, lp_bk, lp_rt, lp_exc, lp_bad, lp_ite, ag_some, ag_none, fl_nil, fl_cons, g_N, g_nil, g_cons, g_T, o_some, v_asg, v_try, try_exc, try_nx, try_rt, trE_rt, trE_nx, v_thkE, v_thkR, thk_rv, said_nx, said_rt, v_isE, isE_rv, v_wipeR, v_callL, callL_fn, lkL_some, v_store, may_ow, may_fz, may_t, sto_ow, sto_mu, ixO_s, List.getElem?_cons_succ, List.getElem?_cons_zero, List.set_cons_succ, List.set_cons_zero, startE, List.zipWith, List.replicate, List.length_cons, List.length_nil, List.cons_append, List.nil_append, setE, Nat.reduceSub, Nat.reduceAdd, if_true, if_false, ite_true, ite_false, Bool.not_true, Bool.not_false, Bool.false_eq_true,
               e_year_days, show ¬ (yd k ≤ n - F fy k) by rw [hge]; omega, ge_iff_le, decide_false]
      · right
        refine ⟨by
          unfold w_mark_of_3
          simp (config := {implicitDefEqProofs := false}) only [b_ok, b_exc, b_bad, b_ite, l_some, l_none, of_ok, of_exc, of_bad, of_ite, sq_nx, sq_rt, sq_bk, sq_ct, sq_exc, sq_bad, sq_ite, fn_nx, fn_rt, fn_exc, fn_bad, fn_ite, v_mkF, v_seq, v_next, v_retN, v_brk, v_cont, v_raise, v_frz, v_bin, v_op1, v_c, v_nil, v_cons, v_consO, v_call, v_test, v_not, v_and, v_or, v_if, bol_b, v_andV, v_orV, v_notV, v_chain, v_lst, v_tup, szR_0, szR_1, szR_2, szR_3, szR_4, szR_5, szR_6, szR_7, szR_8, szR_9, szR_10, szR_11, szR_12, szR_13, szR_14, v_L, v_mu, v_Q, v_P0, iOf_i, v_P, v_sl, v_meth, v_par, v_ifS, v_set, v_setOw, v_ret, v_drop, v_for, v_lam, oCatL_le, oCatQ_le, oAdd_l, oAdd_t, oMul_l2, oMul_l3, oMul_l4, oMul_l5, Nat.reduceLeDiff, oItems_l, oItems_t, oItems_s, oItemsQ_i, oSl_l, oSl_t, oSl_sc, oTupOf_i, oLstOf_i, oSum_i, oAll_i, oAny_i, oMod_p, oDiv_p, oMul_L, oMul_R, oPow_6, oPow_12, oPow_18, oPow_20, oPow_36, oInt_i, oInt_b, oAbs_i, oLen_l, oLen_t, oLenQ_i, oIx_mu, at_0, at_1, at_2, at_3, at_4, at_5, ix5_0, ix5_1, ix5_2, ix5_3, ix5_4, Int.reduceLT, Int.reduceNeg, Int.reduceAdd, Int.reduceSub, Int.reduceMul, oAdd_i, oSub_i, oNeg_i, oLt_i, oLe_i, oGt_i, oGe_i, oMin_i, oMax_i, oEq_i, oNe_i, oEq_s, oNe_s, oIxQ_i, oIx_l, oIx_t, asB_b, asQ_l, asQ_t, v_var, var_fz, v_app, app_ow, v_ext, ext_ow, v_frzE, frs_ow, frs_fz, v_own, own_fl, own_ft, own_ow, own_sh, lp_nx, lp_ct, lp_bk, lp_rt, lp_exc, lp_bad, lp_ite, ag_some, ag_none, fl_nil, fl_cons, g_N, g_nil, g_cons, g_T, o_some, v_asg, v_try, try_exc, try_nx, try_rt, trE_rt, trE_nx, v_thkE, v_thkR, thk_rv, said_nx, said_rt, v_isE, isE_rv, v_wipeR, v_callL, callL_fn, lkL_some, v_store, may_ow, may_fz, may_t, sto_ow, sto_mu, ixO_s, List.getElem?_cons_succ, List.getElem?_cons_zero, List.set_cons_succ, List.set_cons_zero, startE, List.zipWith, List.replicate, List.length_cons, List.length_nil, List.cons_append, List.nil_append, setE, Nat.reduceSub, Nat.reduceAdd, if_true, if_false, ite_true, ite_false, Bool.not_true, Bool.not_false, Bool.false_eq_true,
                 e_year_days, show yd k ≤ n - F fy k by rw [hge]; omega, ge_iff_le, decide_true], _, _, (by
          unfold b_mark_of_2
          simp (config := {implicitDefEqProofs := false}) only [b_ok, b_exc, b_bad, b_ite, l_some, l_none, of_ok, of_exc, of_bad, of_ite, sq_nx, sq_rt, sq_bk, sq_ct, sq_exc, sq_bad, sq_ite, fn_nx, fn_rt, fn_exc, fn_bad, fn_ite, v_mkF, v_seq, v_next, v_retN, v_brk, v_cont, v_raise, v_frz, v_bin, v_op1, v_c, v_nil, v_cons, v_consO, v_call, v_test, v_not, v_and, v_or, v_if, bol_b, v_andV, v_orV, v_notV, v_chain, v_lst, v_tup, szR_0, szR_1, szR_2, szR_3, szR_4, szR_5, szR_6, szR_7, szR_8, szR_9, szR_10, szR_11, szR_12, szR_13, szR_14, v_L, v_mu, v_Q, v_P0, iOf_i, v_P, v_sl, v_meth, v_par, v_ifS, v_set, v_setOw, v_ret, v_drop, v_for, v_lam, oCatL_le, oCatQ_le, oAdd_l, oAdd_t, oMul_l2, oMul_l3, oMul_l4, oMul_l5, Nat.reduceLeDiff, oItems_l, oItems_t, oItems_s, oItemsQ_i, oSl_l, oSl_t, oSl_sc, oTupOf_i, oLstOf_i, oSum_i, oAll_i, oAny_i, oMod_p, oDiv_p, oMul_L, oMul_R, oPow_6, oPow_12, oPow_18, oPow_20, oPow_36, oInt_i, oInt_b, oAbs_i, oLen_l, oLen_t, oLenQ_i, oIx_mu, at_0, at_1, at_2, at_3, at_4, at_5, ix5_0, ix5_1, ix5_2, ix5_3, ix5_4, Int.reduceLT, Int.reduceNeg, Int.reduceAdd, Int.reduceSub, Int.reduceMul, oAdd_i, oSub_i, oNeg_i, oLt_i, oLe_i, oGt_i, oGe_i, oMin_i, oMax_i, oEq_i, oNe_i, oEq_s, oNe_s, oIxQ_i, oIx_l, oIx_t, asB_b, asQ_l, asQ_t, v_var, var_fz, v_app, app_ow, v_ext, ext_ow, v_frzE, frs_ow, frs_fz, v_own, own_fl, own_ft, own_ow, own_sh, lp_nx, lp_ct, lp_bk, lp_rt, lp_exc, lp_bad, lp_ite, ag_some, ag_none, fl_nil, fl_cons, g_N, g_nil, g_cons, g_T, o_some, v_asg, v_try, try_exc, try_nx, try_rt, trE_rt, trE_nx, v_thkE, v_thkR, thk_rv, said_nx, said_rt, v_isE, isE_rv, v_wipeR, v_callL, callL_fn, lkL_some, v_store, may_ow, may_fz, may_t, sto_ow, sto_mu, ixO_s, List.getElem?_cons_succ, List.getElem?_cons_zero, List.set_cons_succ, List.set_cons_zero, startE, List.zipWith, List.replicate, List.length_cons, List.length_nil, List.cons_append, List.nil_append, setE, Nat.reduceSub, Nat.reduceAdd, if_true, if_false, ite_true, ite_false, Bool.not_true, Bool.not_false, Bool.false_eq_true,
                 e_year_days]
          rfl), ⟨rfl, k + 1, by omega, by rw [year_ge, show n - (F fy k + yd k) = n - F fy k - yd k by omega]; rfl⟩, ?_⟩
        show y - ((k : Int) + 1).toNat < y - (k : Int).toNat
        omega) (n := fuel) (env := [.fz (.int n), .fz (.int 0), .fz (.int 1)]) (s := s) ⟨rfl, 0, Nat.zero_le _, by rw [show F fy 0 = 0 from rfl, Int.sub_zero]; rfl⟩ (by show y - 0 < 100000000; omega)
  obtain ⟨rfl, k, hk, rfl⟩ := h2
  have e : k = y := by
    have hge : yd k ≤ n - F fy k ↔ k < y := by
      rw [← lt_iff fy0 hy1 hy2 (j := k), year_ge]; omega
    by_cases q : k = y
    · exact q
    · have h4 : w_mark_of_3 [.fz (.int (n - F fy k)), .fz (.int k), .fz (.int 1)] s' = .ok true s' := by
        unfold w_mark_of_3
        simp (config := {implicitDefEqProofs := false}) only [b_ok, b_exc, b_bad, b_ite, l_some, l_none, of_ok, of_exc, of_bad, of_ite, sq_nx, sq_rt, sq_bk, sq_ct, sq_exc, sq_bad, sq_ite, fn_nx, fn_rt, fn_exc, fn_bad, fn_ite, v_mkF, v_seq, v_next, v_retN, v_brk, v_cont, v_raise, v_frz, v_bin, v_op1, v_c, v_nil, v_cons, v_consO, v_call, v_test, v_not, v_and, v_or, v_if, bol_b, v_andV, v_orV, v_notV, v_chain, v_lst, v_tup, szR_0, szR_1, szR_2, szR_3, szR_4, szR_5, szR_6, szR_7, szR_8, szR_9, szR_10, szR_11, szR_12, szR_13, szR_14, v_L, v_mu, v_Q, v_P0, iOf_i, v_P, v_sl, v_meth, v_par, v_ifS, v_set, v_setOw, v_ret, v_drop, v_for, v_lam, oCatL_le, oCatQ_le, oAdd_l, oAdd_t, oMul_l2, oMul_l3, oMul_l4, oMul_l5, Nat.reduceLeDiff, oItems_l, oItems_t, oItems_s, oItemsQ_i, oSl_l, oSl_t, oSl_sc, oTupOf_i, oLstOf_i, oSum_i, oAll_i, oAny_i, oMod_p, oDiv_p, oMul_L, oMul_R, oPow_6, oPow_12, oPow_18, oPow_20, oPow_36, oInt_i, oInt_b, oAbs_i, oLen_l, oLen_t, oLenQ_i, oIx_mu, at_0, at_1, at_2, at_3, at_4, at_5, ix5_0, ix5_1, ix5_2, ix5_3, ix5_4, Int.reduceLT, Int.reduceNeg, Int.reduceAdd, Int.reduceSub, Int.reduceMul, oAdd_i, oSub_i, oNeg_i, oLt_i, oLe_i, oGt_i, oGe_i, oMin_i, oMax_i, oEq_i, oNe_i, oEq_s, oNe_s, oIxQ_i, oIx_l, oIx_t, asB_b, asQ_l, asQ_t, v_var, var_fz, v_app, app_ow, v_ext, ext_ow, v_frzE, frs_ow, frs_fz, v_own, own_fl, own_ft, own_ow, own_sh, lp_nx, lp_ct, lp_bk, lp_rt, lp_exc, lp_bad, lp_ite, ag_some, ag_none, fl_nil, fl_cons, g_N, g_nil, g_cons, g_T, o_some, v_asg, v_try, try_exc, try_nx, try_rt, trE_rt, trE_nx, v_thkE, v_thkR, thk_rv, said_nx, said_rt, v_isE, isE_rv, v_wipeR, v_callL, callL_fn, lkL_some, v_store, may_ow, may_fz, may_t, sto_ow, sto_mu, ixO_s, List.getElem?_cons_succ, List.getElem?_cons_zero, List.set_cons_succ, List.set_cons_zero, startE, List.zipWith, List.replicate, List.length_cons, List.length_nil, List.cons_append, List.nil_append, setE, Nat.reduceSub, Nat.reduceAdd, if_true, if_false, ite_true, ite_false, Bool.not_true, Bool.not_false, Bool.false_eq_true,
               e_year_days, show yd k ≤ n - F fy k by rw [hge]; omega, ge_iff_le, decide_true]
      rw [h4] at h3
      cases h3
  subst e
  rw [show mWhile w_mark_of_3 b_mark_of_2 = whileLoop w_mark_of_3 b_mark_of_2 fuel from rfl, h1]
  simp (config := {implicitDefEqProofs := false}) only [b_ok, b_exc, b_bad, b_ite, l_some, l_none, of_ok, of_exc, of_bad, of_ite, sq_nx, sq_rt, sq_bk, sq_ct, sq_exc, sq_bad, sq_ite, fn_nx, fn_rt, fn_exc, fn_bad, fn_ite, v_mkF, v_seq, v_next, v_retN, v_brk, v_cont, v_raise, v_frz, v_bin, v_op1, v_c, v_nil, v_cons, v_consO, v_call, v_test, v_not, v_and, v_or, v_if, bol_b, v_andV, v_orV, v_notV, v_chain, v_lst, v_tup, szR_0, szR_1, szR_2, szR_3, szR_4, szR_5, szR_6, szR_7, szR_8, szR_9, szR_10, szR_11, szR_12, szR_13, szR_14, v_L, v_mu, v_Q, v_P0, iOf_i, v_P, v_sl, v_meth, v_par, v_ifS, v_set, v_setOw, v_ret, v_drop, v_for, v_lam, oCatL_le, oCatQ_le, oAdd_l, oAdd_t, oMul_l2, oMul_l3, oMul_l4, oMul_l5, Nat.reduceLeDiff, oItems_l, oItems_t, oItems_s, oItemsQ_i, oSl_l, oSl_t, oSl_sc, oTupOf_i, oLstOf_i, oSum_i, oAll_i, oAny_i, oMod_p, oDiv_p, oMul_L, oMul_R, oPow_6, oPow_12, oPow_18, oPow_20, oPow_36, oInt_i, oInt_b, oAbs_i, oLen_l, oLen_t, oLenQ_i, oIx_mu, at_0, at_1, at_2, at_3, at_4, at_5, ix5_0, ix5_1, ix5_2, ix5_3, ix5_4, Int.reduceLT, Int.reduceNeg, Int.reduceAdd, Int.reduceSub, Int.reduceMul, oAdd_i, oSub_i, oNeg_i, oLt_i, oLe_i, oGt_i, oGe_i, oMin_i, oMax_i, oEq_i, oNe_i, oEq_s, oNe_s, oIxQ_i, oIx_l, oIx_t, asB_b, asQ_l, asQ_t, v_var, var_fz, v_app, app_ow, v_ext, ext_ow, v_frzE, frs_ow, frs_fz, v_own, own_fl, own_ft, own_ow, own_sh, lp_nx, lp_ct, lp_bk, lp_rt, lp_exc, lp_bad, lp_ite, ag_some, ag_none, fl_nil, fl_cons, g_N, g_nil, g_cons, g_T, o_some, v_asg, v_try, try_exc, try_nx, try_rt, trE_rt, trE_nx, v_thkE, v_thkR, thk_rv, said_nx, said_rt, v_isE, isE_rv, v_wipeR, v_callL, callL_fn, lkL_some, v_store, may_ow, may_fz, may_t, sto_ow, sto_mu, ixO_s, List.getElem?_cons_succ, List.getElem?_cons_zero, List.set_cons_succ, List.set_cons_zero, startE, List.zipWith, List.replicate, List.length_cons, List.length_nil, List.cons_append, List.nil_append, setE, Nat.reduceSub, Nat.reduceAdd, if_true, if_false, ite_true, ite_false, Bool.not_true, Bool.not_false, Bool.false_eq_true]
  obtain ⟨env', s2, g1, g2, g3⟩ := while_inv (c := w_mark_of_5) (b := b_mark_of_4)
    (fun env s2 => s2 = s' ∧ ∃ j : Nat, j ≤ m ∧ env = [.fz (.int (n - F fy k - F (fm k) j)), .fz (.int k), .fz (.int ((j : Int) + 1))])
    (fun env => match env with | [_, _, .fz (.int j)] => m - (j - 1).toNat | _ => 0) (fun env s2 hI => by
      obtain ⟨rfl, j, hj, rfl⟩ := hI
      have hge : ml ((j : Int) + 1) k ≤ n - F fy k - F (fm k) j ↔ j < m := by
        rw [← lt_iff (fm0 k) hM1 hM2 (j := j), month_ge]; omega
      by_cases q : j = m
      · left
        unfold w_mark_of_5
        simp (config := {implicitDefEqProofs := false}) only [b_ok, b_exc, b_bad, b_ite, l_some, l_none, of_ok, of_exc, of_bad, of_ite, sq_nx, sq_rt, sq_bk, sq_ct, sq_exc, sq_bad, sq_ite, fn_nx, fn_rt, fn_exc, fn_bad, fn_ite, v_mkF, v_seq, v_next, v_retN, v_brk, v_cont, v_raise, v_frz, v_bin, v_op1, v_c, v_nil, v_cons, v_consO, v_call, v_test, v_not, v_and, v_or, v_if, bol_b, v_andV, v_orV, v_notV, v_chain, v_lst, v_tup, szR_0, szR_1, szR_2, szR_3, szR_4, szR_5, szR_6, szR_7, szR_8, szR_9, szR_10, szR_11, szR_12, szR_13, szR_14, v_L, v_mu, v_Q, v_P0, iOf_i, v_P, v_sl, v_meth, v_par, v_ifS, v_set, v_setOw, v_ret, v_drop, v_for, v_lam, oCatL_le, oCatQ_le, oAdd_l, oAdd_t, oMul_l2, oMul_l3, oMul_l4, oMul_l5, Nat.reduceLeDiff, oItems_l, oItems_t, oItems_s, oItemsQ_i, oSl_l, oSl_t, oSl_sc, oTupOf_i, oLstOf_i, oSum_i, oAll_i, oAny_i, oMod_p, oDiv_p, oMul_L, oMul_R, oPow_6, oPow_12, oPow_18, oPow_20, oPow_36, oInt_i, oInt_b, oAbs_i, oLen_l, oLen_t, oLenQ_i, oIx_mu, at_0, at_1, at_2, at_3, at_4, at_5, ix5_0, ix5_1, ix5_2, ix5_3, ix5_4, Int.reduceLT, Int.reduceNeg, Int.reduceAdd, Int.reduceSub, Int.reduceMul, oAdd_i, oSub_i, oNeg_i, oLt_i, oLe_i, oGt_i, oGe_i, oMin_i, oMax_i, oEq_i, oNe_i, oEq_s, oNe_s, oIxQ_i, oIx_l, oIx_t, asB_b, asQ_l, asQ_t, v_var, var_fz, v_app, app_ow, v_ext, ext_ow, v_frzE, frs_ow, frs_fz, v_own, own_fl, own_ft, own_ow, own_sh, lp_nx, lp_ct, lp_bk, lp_rt, lp_exc, lp_bad, lp_ite, ag_some, ag_none, fl_nil, fl_cons, g_N, g_nil, g_cons, g_T, o_some, v_asg, v_try, try_exc, try_nx, try_rt, trE_rt, trE_nx, v_thkE, v_thkR, thk_rv, said_nx, said_rt, v_isE, isE_rv, v_wipeR, v_callL, callL_fn, lkL_some, v_store, may_ow, may_fz, may_t, sto_ow, sto_mu, ixO_s, List.getElem?_cons_succ, List.getElem?_cons_zero, List.set_cons_succ, List.set_cons_zero, startE, List.zipWith, List.replicate, List.length_cons, List.length_nil, List.cons_append, List.nil_append, setE, Nat.reduceSub, Nat.reduceAdd, if_true, if_false, ite_true, ite_false, Bool.not_true, Bool.not_false, Bool.false_eq_true,
               e_month_length (m := (j : Int) + 1) (y := (k : Int)) (by omega) (by omega), show ¬ (ml ((j : Int) + 1) k ≤ n - F fy k - F (fm k) j) by rw [hge]; omega, ge_iff_le, decide_false]
      · right
        refine ⟨by
          unfold w_mark_of_5
          simp (config := {implicitDefEqProofs := false}) only [b_ok, b_exc, b_bad, b_ite, l_some, l_none, of_ok, of_exc, of_bad, of_ite, sq_nx, sq_rt, sq_bk, sq_ct, sq_exc, sq_bad, sq_ite, fn_nx, fn_rt, fn_exc, fn_bad, fn_ite, v_mkF, v_seq, v_next, v_retN, v_brk, v_cont, v_raise, v_frz, v_bin, v_op1, v_c, v_nil, v_cons, v_consO, v_call, v_test, v_not, v_and, v_or, v_if, bol_b, v_andV, v_orV, v_notV, v_chain, v_lst, v_tup, szR_0, szR_1, szR_2, szR_3, szR_4, szR_5, szR_6, szR_7, szR_8, szR_9, szR_10, szR_11, szR_12, szR_13, szR_14, v_L, v_mu, v_Q, v_P0, iOf_i, v_P, v_sl, v_meth, v_par, v_ifS, v_set, v_setOw, v_ret, v_drop, v_for, v_lam, oCatL_le, oCatQ_le, oAdd_l, oAdd_t, oMul_l2, oMul_l3, oMul_l4, oMul_l5, Nat.reduceLeDiff, oItems_l, oItems_t, oItems_s, oItemsQ_i, oSl_l, oSl_t, oSl_sc, oTupOf_i, oLstOf_i, oSum_i, oAll_i, oAny_i, oMod_p, oDiv_p, oMul_L, oMul_R, oPow_6, oPow_12, oPow_18, oPow_20, oPow_36, oInt_i, oInt_b, oAbs_i, oLen_l, oLen_t, oLenQ_i, oIx_mu, at_0, at_1, at_2, at_3, at_4, at_5, ix5_0, ix5_1, ix5_2, ix5_3, ix5_4, Int.reduceLT, Int.reduceNeg, Int.reduceAdd, Int.reduceSub, Int.reduceMul, oAdd_i, oSub_i, oNeg_i, oLt_i, oLe_i, oGt_i, oGe_i, oMin_i, oMax_i, oEq_i, oNe_i, oEq_s, oNe_s, oIxQ_i, oIx_l, oIx_t, asB_b, asQ_l, asQ_t, v_var, var_fz, v_app, app_ow, v_ext, ext_ow, v_frzE, frs_ow, frs_fz, v_own, own_fl, own_ft, own_ow, own_sh, lp_nx, lp_ct, lp_bk, lp_rt, lp_exc, lp_bad, lp_ite, ag_some, ag_none, fl_nil, fl_cons, g_N, g_nil, g_cons, g_T, o_some, v_asg, v_try, try_exc, try_nx, try_rt, trE_rt, trE_nx, v_thkE, v_thkR, thk_rv, said_nx, said_rt, v_isE, isE_rv, v_wipeR, v_callL, callL_fn, lkL_some, v_store, may_ow, may_fz, may_t, sto_ow, sto_mu, ixO_s, List.getElem?_cons_succ, List.getElem?_cons_zero, List.set_cons_succ, List.set_cons_zero, startE, List.zipWith, List.replicate, List.length_cons, List.length_nil, List.cons_append, List.nil_append, setE, Nat.reduceSub, Nat.reduceAdd, if_true, if_false, ite_true, ite_false, Bool.not_true, Bool.not_false, Bool.false_eq_true,
                 e_month_length (m := (j : Int) + 1) (y := (k : Int)) (by omega) (by omega), show ml ((j : Int) + 1) k ≤ n - F fy k - F (fm k) j by rw [hge]; omega, ge_iff_le, decide_true], _, _, (by
          unfold b_mark_of_4
          simp (config := {implicitDefEqProofs := false}) only [b_ok, b_exc, b_bad, b_ite, l_some, l_none, of_ok, of_exc, of_bad, of_ite, sq_nx, sq_rt, sq_bk, sq_ct, sq_exc, sq_bad, sq_ite, fn_nx, fn_rt, fn_exc, fn_bad, fn_ite, v_mkF, v_seq, v_next, v_retN, v_brk, v_cont, v_raise, v_frz, v_bin, v_op1, v_c, v_nil, v_cons, v_consO, v_call, v_test, v_not, v_and, v_or, v_if, bol_b, v_andV, v_orV, v_notV, v_chain, v_lst, v_tup, szR_0, szR_1, szR_2, szR_3, szR_4, szR_5, szR_6, szR_7, szR_8, szR_9, szR_10, szR_11, szR_12, szR_13, szR_14, v_L, v_mu, v_Q, v_P0, iOf_i, v_P, v_sl, v_meth, v_par, v_ifS, v_set, v_setOw, v_ret, v_drop, v_for, v_lam, oCatL_le, oCatQ_le, oAdd_l, oAdd_t, oMul_l2, oMul_l3, oMul_l4, oMul_l5, Nat.reduceLeDiff, oItems_l, oItems_t, oItems_s, oItemsQ_i, oSl_l, oSl_t, oSl_sc, oTupOf_i, oLstOf_i, oSum_i, oAll_i, oAny_i, oMod_p, oDiv_p, oMul_L, oMul_R, oPow_6, oPow_12, oPow_18, oPow_20, oPow_36, oInt_i, oInt_b, oAbs_i, oLen_l, oLen_t, oLenQ_i, oIx_mu, at_0, at_1, at_2, at_3, at_4, at_5, ix5_0, ix5_1, ix5_2, ix5_3, ix5_4, Int.reduceLT, Int.reduceNeg, Int.reduceAdd, Int.reduceSub, Int.reduceMul, oAdd_i, oSub_i, oNeg_i, oLt_i, oLe_i, oGt_i, oGe_i, oMin_i, oMax_i, oEq_i, oNe_i, oEq_s, oNe_s, oIxQ_i, oIx_l, oIx_t, asB_b, asQ_l, asQ_t, v_var, var_fz, v_app, app_ow, v_ext, ext_ow, v_frzE, frs_ow, frs_fz, v_own, own_fl, own_ft, own_ow, own_sh, lp_nx, lp_ct, lp_bk, lp_rt, lp_exc, lp_bad, lp_ite, ag_some, ag_none, fl_nil, fl_cons, g_N, g_nil, g_cons, g_T, o_some, v_asg, v_try, try_exc, try_nx, try_rt, trE_rt, trE_nx, v_thkE, v_thkR, thk_rv, said_nx, said_rt, v_isE, isE_rv, v_wipeR, v_callL, callL_fn, lkL_some, v_store, may_ow, may_fz, may_t, sto_ow, sto_mu, ixO_s, List.getElem?_cons_succ, List.getElem?_cons_zero, List.set_cons_succ, List.set_cons_zero, startE, List.zipWith, List.replicate, List.length_cons, List.length_nil, List.cons_append, List.nil_append, setE, Nat.reduceSub, Nat.reduceAdd, if_true, if_false, ite_true, ite_false, Bool.not_true, Bool.not_false, Bool.false_eq_true,
                 e_month_length (m := (j : Int) + 1) (y := (k : Int)) (by omega) (by omega)]
          rfl), ⟨rfl, j + 1, by omega, by rw [month_ge, show n - F fy k - (F (fm k) j + ml ((j : Int) + 1) k) = n - F fy k - F (fm k) j - ml ((j : Int) + 1) k by omega]; rfl⟩, ?_⟩
        show m - ((j : Int) + 1 + 1 - 1).toNat < m - ((j : Int) + 1 - 1).toNat
        omega) (n := fuel) (env := [.fz (.int (n - F fy k)), .fz (.int k), .fz (.int 1)]) (s := s') ⟨rfl, 0, Nat.zero_le _, by rw [show F (fm k) 0 = 0 from rfl, Int.sub_zero]; rfl⟩ (by show m - 0 < 100000000; omega)
  obtain ⟨rfl, j, hj, rfl⟩ := g2
  have e : j = m := by
    have hge : ml ((j : Int) + 1) k ≤ n - F fy k - F (fm k) j ↔ j < m := by
      rw [← lt_iff (fm0 k) hM1 hM2 (j := j), month_ge]; omega
    by_cases q : j = m
    · exact q
    · have h4 : w_mark_of_5 [.fz (.int (n - F fy k - F (fm k) j)), .fz (.int k), .fz (.int ((j : Int) + 1))] s2 = .ok true s2 := by
        unfold w_mark_of_5
        simp (config := {implicitDefEqProofs := false}) only [b_ok, b_exc, b_bad, b_ite, l_some, l_none, of_ok, of_exc, of_bad, of_ite, sq_nx, sq_rt, sq_bk, sq_ct, sq_exc, sq_bad, sq_ite, fn_nx, fn_rt, fn_exc, fn_bad, fn_ite, v_mkF, v_seq, v_next, v_retN, v_brk, v_cont, v_raise, v_frz, v_bin, v_op1, v_c, v_nil, v_cons, v_consO, v_call, v_test, v_not, v_and, v_or, v_if, bol_b, v_andV, v_orV, v_notV, v_chain, v_lst, v_tup, szR_0, szR_1, szR_2, szR_3, szR_4, szR_5, szR_6, szR_7, szR_8, szR_9, szR_10, szR_11, szR_12, szR_13, szR_14, v_L, v_mu, v_Q, v_P0, iOf_i, v_P, v_sl, v_meth, v_par, v_ifS, v_set, v_setOw, v_ret, v_drop, v_for, v_lam, oCatL_le, oCatQ_le, oAdd_l, oAdd_t, oMul_l2, oMul_l3, oMul_l4, oMul_l5, Nat.reduceLeDiff, oItems_l, oItems_t, oItems_s, oItemsQ_i, oSl_l, oSl_t, oSl_sc, oTupOf_i, oLstOf_i, oSum_i, oAll_i, oAny_i, oMod_p, oDiv_p, oMul_L, oMul_R, oPow_6, oPow_12, oPow_18, oPow_20, oPow_36, oInt_i, oInt_b, oAbs_i, oLen_l, oLen_t, oLenQ_i, oIx_mu, at_0, at_1, at_2, at_3, at_4, at_5, ix5_0, ix5_1, ix5_2, ix5_3, ix5_4, Int.reduceLT, Int.reduceNeg, Int.reduceAdd, Int.reduceSub, Int.reduceMul, oAdd_i, oSub_i, oNeg_i, oLt_i, oLe_i, oGt_i, oGe_i, oMin_i, oMax_i, oEq_i, oNe_i, oEq_s, oNe_s, oIxQ_i, oIx_l, oIx_t, asB_b, asQ_l, asQ_t, v_var, var_fz, v_app, app_ow, v_ext, ext_ow, v_frzE, frs_ow, frs_fz, v_own, own_fl, own_ft, own_ow, own_sh, lp_nx, lp_ct, lp_bk, lp_rt, lp_exc, lp_bad, lp_ite, ag_some, ag_none, fl_nil, fl_cons, g_N, g_nil, g_cons, g_T, o_some, v_asg, v_try, try_exc, try_nx, try_rt, trE_rt, trE_nx, v_thkE, v_thkR, thk_rv, said_nx, said_rt, v_isE, isE_rv, v_wipeR, v_callL, callL_fn, lkL_some, v_store, may_ow, may_fz, may_t, sto_ow, sto_mu, ixO_s, List.getElem?_cons_succ, List.getElem?_cons_zero, List.set_cons_succ, List.set_cons_zero, startE, List.zipWith, List.replicate, List.length_cons, List.length_nil, List.cons_append, List.nil_append, setE, Nat.reduceSub, Nat.reduceAdd, if_true, if_false, ite_true, ite_false, Bool.not_true, Bool.not_false, Bool.false_eq_true,
               e_month_length (m := (j : Int) + 1) (y := (k : Int)) (by omega) (by omega), show ml ((j : Int) + 1) k ≤ n - F fy k - F (fm k) j by rw [hge]; omega, ge_iff_le, decide_true]
      rw [h4] at g3
      cases g3
  subst e
  rw [show mWhile w_mark_of_5 b_mark_of_4 = whileLoop w_mark_of_5 b_mark_of_4 fuel from rfl, g1]
  have f2 : ∀ {i : Int} {s : S}, 0 ≤ i → i < 100 → oFmt2 (.int i) s = some (.str (two02 i)) := fun a b => if_pos ⟨a, b⟩
  have ed : n - F fy k - F (fm k) j = d := by omega
  rw [ed]
  have l1 := two_len' (i := d + 1) (by omega) (by omega)
  have l2 := two_len' (i := (j : Int) + 1) (by omega) (by omega)
  have l3 := two_len' (i := (k : Int)) (by omega) (by omega)
  have a1 : (Str.empty ++ two02 (d + 1)).length = 2 := by rw [strLen_append, l1]; rfl
  have a2 : (Str.empty ++ two02 (d + 1) ++ two02 ((j : Int) + 1)).length = 4 := by rw [strLen_append, a1, l2]
  have a3 : (Str.empty ++ two02 (d + 1) ++ two02 ((j : Int) + 1) ++ two02 (k : Int)).length = 6 := by rw [strLen_append, a2, l3]
  simp (config := {implicitDefEqProofs := false}) only [b_ok, b_exc, b_bad, b_ite, l_some, l_none, of_ok, of_exc, of_bad, of_ite, sq_nx, sq_rt, sq_bk, sq_ct, sq_exc, sq_bad, sq_ite, fn_nx, fn_rt, fn_exc, fn_bad, fn_ite, v_mkF, v_seq, v_next, v_retN, v_brk, v_cont, v_raise, v_frz, v_bin, v_op1, v_c, v_nil, v_cons, v_consO, v_call, v_test, v_not, v_and, v_or, v_if, bol_b, v_andV, v_orV, v_notV, v_chain, v_lst, v_tup, szR_0, szR_1, szR_2, szR_3, szR_4, szR_5, szR_6, szR_7, szR_8, szR_9, szR_10, szR_11, szR_12, szR_13, szR_14, v_L, v_mu, v_Q, v_P0, iOf_i, v_P, v_sl, v_meth, v_par, v_ifS, v_set, v_setOw, v_ret, v_drop, v_for, v_lam, oCatL_le, oCatQ_le, oAdd_l, oAdd_t, oMul_l2, oMul_l3, oMul_l4, oMul_l5, Nat.reduceLeDiff, oItems_l, oItems_t, oItems_s, oItemsQ_i, oSl_l, oSl_t, oSl_sc, oTupOf_i, oLstOf_i, oSum_i, oAll_i, oAny_i, oMod_p, oDiv_p, oMul_L, oMul_R, oPow_6, oPow_12, oPow_18, oPow_20, oPow_36, oInt_i, oInt_b, oAbs_i, oLen_l, oLen_t, oLenQ_i, oIx_mu, at_0, at_1, at_2, at_3, at_4, at_5, ix5_0, ix5_1, ix5_2, ix5_3, ix5_4, Int.reduceLT, Int.reduceNeg, Int.reduceAdd, Int.reduceSub, Int.reduceMul, oAdd_i, oSub_i, oNeg_i, oLt_i, oLe_i, oGt_i, oGe_i, oMin_i, oMax_i, oEq_i, oNe_i, oEq_s, oNe_s, oIxQ_i, oIx_l, oIx_t, asB_b, asQ_l, asQ_t, v_var, var_fz, v_app, app_ow, v_ext, ext_ow, v_frzE, frs_ow, frs_fz, v_own, own_fl, own_ft, own_ow, own_sh, lp_nx, lp_ct, lp_bk, lp_rt, lp_exc, lp_bad, lp_ite, ag_some, ag_none, fl_nil, fl_cons, g_N, g_nil, g_cons, g_T, o_some, v_asg, v_try, try_exc, try_nx, try_rt, trE_rt, trE_nx, v_thkE, v_thkR, thk_rv, said_nx, said_rt, v_isE, isE_rv, v_wipeR, v_callL, callL_fn, lkL_some, v_store, may_ow, may_fz, may_t, sto_ow, sto_mu, ixO_s, List.getElem?_cons_succ, List.getElem?_cons_zero, List.set_cons_succ, List.set_cons_zero, startE, List.zipWith, List.replicate, List.length_cons, List.length_nil, List.cons_append, List.nil_append, setE, Nat.reduceSub, Nat.reduceAdd, if_true, if_false, ite_true, ite_false, Bool.not_true, Bool.not_false, Bool.false_eq_true,
         v_jn, v_j1, v_j0, f2 (i := d + 1) (by omega) (by omega), f2 (i := (j : Int) + 1) (by omega) (by omega), f2 (i := (k : Int)) (by omega) (by omega),
    jK_s (show (Str.empty ++ two02 (d + 1)).length ≤ 1000000 by omega), jK_s (show (Str.empty ++ two02 (d + 1) ++ two02 ((j : Int) + 1)).length ≤ 1000000 by omega), jK_s (show (Str.empty ++ two02 (d + 1) ++ two02 ((j : Int) + 1) ++ two02 (k : Int)).length ≤ 1000000 by omega)]
  unfold markS
  rw [Str.empty_append]
theorem num_mark {n : Int} (h0 : 0 ≤ n) (h1 : n < 36525) : ∃ z, six z = true ∧ gd z = true ∧ ∀ s, mf_mark_of [.int n] s = .ok (.str z) s := by
  obtain ⟨y, m, d, hd, a1, a2⟩ := date h0 h1
  obtain ⟨k, hk, hm, k1, k2⟩ := date_mk hd
  exact ⟨markS y m d, mk_six hm, by rw [gd_of hm]; exact date_good hd k1 k2, e_mark_of hd a1 a2⟩
theorem e_law_marks {s : S} (hs : Hand s) : ∃ z s', mf__law_marks [muD 0] s = .ok (.str z) s' ∧ six z = true ∧ gd z = true ∧ Hand s' := by
  obtain ⟨a, s1, e1, a0, a1, hs1⟩ := e_draw hs (b := 36525) (by decide) (by decide)
  obtain ⟨za, sa, ga, ma⟩ := num_mark a0 a1
  obtain ⟨b, s2, e2, b0, b1, hs2⟩ := e_draw hs1 (b := 36525) (by decide) (by decide)
  obtain ⟨zb, sb, gb, mb⟩ := num_mark b0 b1
  obtain ⟨c, s3, e3, c0, c1, hs3⟩ := e_draw hs2 (b := 366) (by decide) (by decide)
  obtain ⟨zc, sc, gc, mc⟩ := num_mark c0 (show c < 36525 by omega)
  obtain ⟨x, s4, e4, hx, hs4⟩ := e_any hs3 (ds := [.str za, .str "111111", .str "121112", .str "010110", .str "100101", .str "290200", .str "020112", .str "311299", .str zb, .str zc]) (by simp) (by simp)
  obtain ⟨z, rfl, sz, gz⟩ : ∃ z, x = .str z ∧ six z = true ∧ gd z = true := by
    simp only [List.mem_cons, List.mem_nil_iff, or_false] at hx
    rcases hx with rfl | rfl | rfl | rfl | rfl | rfl | rfl | rfl | rfl | rfl
    · exact ⟨_, rfl, sa, ga⟩
    · exact ⟨_, rfl, by kernel_rfl, by kernel_rfl⟩
    · exact ⟨_, rfl, by kernel_rfl, by kernel_rfl⟩
    · exact ⟨_, rfl, by kernel_rfl, by kernel_rfl⟩
    · exact ⟨_, rfl, by kernel_rfl, by kernel_rfl⟩
    · exact ⟨_, rfl, by kernel_rfl, by kernel_rfl⟩
    · exact ⟨_, rfl, by kernel_rfl, by kernel_rfl⟩
    · exact ⟨_, rfl, by kernel_rfl, by kernel_rfl⟩
    · exact ⟨_, rfl, sb, gb⟩
    · exact ⟨_, rfl, sc, gc⟩
  refine ⟨z, s4, ?_, sz, gz, hs4⟩
  unfold mf__law_marks m__law_marks
  simp (config := {implicitDefEqProofs := false}) only [b_ok, b_exc, b_bad, b_ite, l_some, l_none, of_ok, of_exc, of_bad, of_ite, sq_nx, sq_rt, sq_bk, sq_ct, sq_exc, sq_bad, sq_ite, fn_nx, fn_rt, fn_exc, fn_bad, fn_ite, v_mkF, v_seq, v_next, v_retN, v_brk, v_cont, v_raise, v_frz, v_bin, v_op1, v_c, v_nil, v_cons, v_consO, v_call, v_test, v_not, v_and, v_or, v_if, bol_b, v_andV, v_orV, v_notV, v_chain, v_lst, v_tup, szR_0, szR_1, szR_2, szR_3, szR_4, szR_5, szR_6, szR_7, szR_8, szR_9, szR_10, szR_11, szR_12, szR_13, szR_14, v_L, v_mu, v_Q, v_P0, iOf_i, v_P, v_sl, v_meth, v_par, v_ifS, v_set, v_setOw, v_ret, v_drop, v_for, v_lam, oCatL_le, oCatQ_le, oAdd_l, oAdd_t, oMul_l2, oMul_l3, oMul_l4, oMul_l5, Nat.reduceLeDiff, oItems_l, oItems_t, oItems_s, oItemsQ_i, oSl_l, oSl_t, oSl_sc, oTupOf_i, oLstOf_i, oSum_i, oAll_i, oAny_i, oMod_p, oDiv_p, oMul_L, oMul_R, oPow_6, oPow_12, oPow_18, oPow_20, oPow_36, oInt_i, oInt_b, oAbs_i, oLen_l, oLen_t, oLenQ_i, oIx_mu, at_0, at_1, at_2, at_3, at_4, at_5, ix5_0, ix5_1, ix5_2, ix5_3, ix5_4, Int.reduceLT, Int.reduceNeg, Int.reduceAdd, Int.reduceSub, Int.reduceMul, oAdd_i, oSub_i, oNeg_i, oLt_i, oLe_i, oGt_i, oGe_i, oMin_i, oMax_i, oEq_i, oNe_i, oEq_s, oNe_s, oIxQ_i, oIx_l, oIx_t, asB_b, asQ_l, asQ_t, v_var, var_fz, v_app, app_ow, v_ext, ext_ow, v_frzE, frs_ow, frs_fz, v_own, own_fl, own_ft, own_ow, own_sh, lp_nx, lp_ct, lp_bk, lp_rt, lp_exc, lp_bad, lp_ite, ag_some, ag_none, fl_nil, fl_cons, g_N, g_nil, g_cons, g_T, o_some, v_asg, v_try, try_exc, try_nx, try_rt, trE_rt, trE_nx, v_thkE, v_thkR, thk_rv, said_nx, said_rt, v_isE, isE_rv, v_wipeR, v_callL, callL_fn, lkL_some, v_store, may_ow, may_fz, may_t, sto_ow, sto_mu, ixO_s, List.getElem?_cons_succ, List.getElem?_cons_zero, List.set_cons_succ, List.set_cons_zero, startE, List.zipWith, List.replicate, List.length_cons, List.length_nil, List.cons_append, List.nil_append, setE, Nat.reduceSub, Nat.reduceAdd, if_true, if_false, ite_true, ite_false, Bool.not_true, Bool.not_false, Bool.false_eq_true,
         e1, ma, e2, mb, e3, mc, e4]
theorem oIs_t (s : S) : oIs (.bool true) (.bool true) s = some (.bool true) := rfl
theorem e_mark_right {s : S} (hs : Hand s) {z : Str} (h : six z = true) (g : gd z = true) : ∃ s', mf__law_mark_right [muD 0, .str z] s = .ok (.bool true) s' ∧ Hand s' := by
  have hr : ∀ s, oRng1 (.int 6) s = some ((List.range 6).map fun i : Nat => .int (0 + (i : Int))) := fun s => rng1_n (n := 6) (by omega)
  obtain ⟨zs, s1, q1, hsub, hs1⟩ := comp_pick (src := mOp1 oRng1 (mC (.int 6))) (vs := [6]) (asg := gN 6) (test := mTest (mBin oEq (mCall mf__law_draw (mCons (mVar 0) (mCons (mC (.int 3)) (mNil)))) (mC (.int 0)))) (elt := mVar 6)
    (env := [.fz (muD 0), .fz (.str z), .un, .un, .un, .un, .un, .un]) (s := s) (s1 := s) (xs := List.range 6) (f := fun i : Nat => .int (0 + (i : Int))) Hand (fun i : Nat => .int (0 + (i : Int))) (by simp (config := {implicitDefEqProofs := false}) only [b_ok, b_exc, b_bad, b_ite, l_some, l_none, of_ok, of_exc, of_bad, of_ite, sq_nx, sq_rt, sq_bk, sq_ct, sq_exc, sq_bad, sq_ite, fn_nx, fn_rt, fn_exc, fn_bad, fn_ite, v_mkF, v_seq, v_next, v_retN, v_brk, v_cont, v_raise, v_frz, v_bin, v_op1, v_c, v_nil, v_cons, v_consO, v_call, v_test, v_not, v_and, v_or, v_if, bol_b, v_andV, v_orV, v_notV, v_chain, v_lst, v_tup, szR_0, szR_1, szR_2, szR_3, szR_4, szR_5, szR_6, szR_7, szR_8, szR_9, szR_10, szR_11, szR_12, szR_13, szR_14, v_L, v_mu, v_Q, v_P0, iOf_i, v_P, v_sl, v_meth, v_par, v_ifS, v_set, v_setOw, v_ret, v_drop, v_for, v_lam, oCatL_le, oCatQ_le, oAdd_l, oAdd_t, oMul_l2, oMul_l3, oMul_l4, oMul_l5, Nat.reduceLeDiff, oItems_l, oItems_t, oItems_s, oItemsQ_i, oSl_l, oSl_t, oSl_sc, oTupOf_i, oLstOf_i, oSum_i, oAll_i, oAny_i, oMod_p, oDiv_p, oMul_L, oMul_R, oPow_6, oPow_12, oPow_18, oPow_20, oPow_36, oInt_i, oInt_b, oAbs_i, oLen_l, oLen_t, oLenQ_i, oIx_mu, at_0, at_1, at_2, at_3, at_4, at_5, ix5_0, ix5_1, ix5_2, ix5_3, ix5_4, Int.reduceLT, Int.reduceNeg, Int.reduceAdd, Int.reduceSub, Int.reduceMul, oAdd_i, oSub_i, oNeg_i, oLt_i, oLe_i, oGt_i, oGe_i, oMin_i, oMax_i, oEq_i, oNe_i, oEq_s, oNe_s, oIxQ_i, oIx_l, oIx_t, asB_b, asQ_l, asQ_t, v_var, var_fz, v_app, app_ow, v_ext, ext_ow, v_frzE, frs_ow, frs_fz, v_own, own_fl, own_ft, own_ow, own_sh, lp_nx, lp_ct, lp_bk, lp_rt, lp_exc, lp_bad, lp_ite, ag_some, ag_none, fl_nil, fl_cons, g_N, g_nil, g_cons, g_T, o_some, v_asg, v_try, try_exc, try_nx, try_rt, trE_rt, trE_nx, v_thkE, v_thkR, thk_rv, said_nx, said_rt, v_isE, isE_rv, v_wipeR, v_callL, callL_fn, lkL_some, v_store, may_ow, may_fz, may_t, sto_ow, sto_mu, ixO_s, List.getElem?_cons_succ, List.getElem?_cons_zero, List.set_cons_succ, List.set_cons_zero, startE, List.zipWith, List.replicate, List.length_cons, List.length_nil, List.cons_append, List.nil_append, setE, Nat.reduceSub, Nat.reduceAdd, if_true, if_false, ite_true, ite_false, Bool.not_true, Bool.not_false, Bool.false_eq_true,
                                                                                                                                                                                                                hr]) (by simp) hs (fun i hi s hs => by
      obtain ⟨x, s', e, x0, x1, h'⟩ := e_draw hs (b := 3) (by decide) (by decide)
      refine ⟨_, x == 0, s', rfl, ?_, h', fun _ => ?_⟩
      · dsimp only [wipeE]
        simp (config := {implicitDefEqProofs := false}) only [b_ok, b_exc, b_bad, b_ite, l_some, l_none, of_ok, of_exc, of_bad, of_ite, sq_nx, sq_rt, sq_bk, sq_ct, sq_exc, sq_bad, sq_ite, fn_nx, fn_rt, fn_exc, fn_bad, fn_ite, v_mkF, v_seq, v_next, v_retN, v_brk, v_cont, v_raise, v_frz, v_bin, v_op1, v_c, v_nil, v_cons, v_consO, v_call, v_test, v_not, v_and, v_or, v_if, bol_b, v_andV, v_orV, v_notV, v_chain, v_lst, v_tup, szR_0, szR_1, szR_2, szR_3, szR_4, szR_5, szR_6, szR_7, szR_8, szR_9, szR_10, szR_11, szR_12, szR_13, szR_14, v_L, v_mu, v_Q, v_P0, iOf_i, v_P, v_sl, v_meth, v_par, v_ifS, v_set, v_setOw, v_ret, v_drop, v_for, v_lam, oCatL_le, oCatQ_le, oAdd_l, oAdd_t, oMul_l2, oMul_l3, oMul_l4, oMul_l5, Nat.reduceLeDiff, oItems_l, oItems_t, oItems_s, oItemsQ_i, oSl_l, oSl_t, oSl_sc, oTupOf_i, oLstOf_i, oSum_i, oAll_i, oAny_i, oMod_p, oDiv_p, oMul_L, oMul_R, oPow_6, oPow_12, oPow_18, oPow_20, oPow_36, oInt_i, oInt_b, oAbs_i, oLen_l, oLen_t, oLenQ_i, oIx_mu, at_0, at_1, at_2, at_3, at_4, at_5, ix5_0, ix5_1, ix5_2, ix5_3, ix5_4, Int.reduceLT, Int.reduceNeg, Int.reduceAdd, Int.reduceSub, Int.reduceMul, oAdd_i, oSub_i, oNeg_i, oLt_i, oLe_i, oGt_i, oGe_i, oMin_i, oMax_i, oEq_i, oNe_i, oEq_s, oNe_s, oIxQ_i, oIx_l, oIx_t, asB_b, asQ_l, asQ_t, v_var, var_fz, v_app, app_ow, v_ext, ext_ow, v_frzE, frs_ow, frs_fz, v_own, own_fl, own_ft, own_ow, own_sh, lp_nx, lp_ct, lp_bk, lp_rt, lp_exc, lp_bad, lp_ite, ag_some, ag_none, fl_nil, fl_cons, g_N, g_nil, g_cons, g_T, o_some, v_asg, v_try, try_exc, try_nx, try_rt, trE_rt, trE_nx, v_thkE, v_thkR, thk_rv, said_nx, said_rt, v_isE, isE_rv, v_wipeR, v_callL, callL_fn, lkL_some, v_store, may_ow, may_fz, may_t, sto_ow, sto_mu, ixO_s, List.getElem?_cons_succ, List.getElem?_cons_zero, List.set_cons_succ, List.set_cons_zero, startE, List.zipWith, List.replicate, List.length_cons, List.length_nil, List.cons_append, List.nil_append, setE, Nat.reduceSub, Nat.reduceAdd, if_true, if_false, ite_true, ite_false, Bool.not_true, Bool.not_false, Bool.false_eq_true,
               e]
      · dsimp only [wipeE]
        simp (config := {implicitDefEqProofs := false}) only [b_ok, b_exc, b_bad, b_ite, l_some, l_none, of_ok, of_exc, of_bad, of_ite, sq_nx, sq_rt, sq_bk, sq_ct, sq_exc, sq_bad, sq_ite, fn_nx, fn_rt, fn_exc, fn_bad, fn_ite, v_mkF, v_seq, v_next, v_retN, v_brk, v_cont, v_raise, v_frz, v_bin, v_op1, v_c, v_nil, v_cons, v_consO, v_call, v_test, v_not, v_and, v_or, v_if, bol_b, v_andV, v_orV, v_notV, v_chain, v_lst, v_tup, szR_0, szR_1, szR_2, szR_3, szR_4, szR_5, szR_6, szR_7, szR_8, szR_9, szR_10, szR_11, szR_12, szR_13, szR_14, v_L, v_mu, v_Q, v_P0, iOf_i, v_P, v_sl, v_meth, v_par, v_ifS, v_set, v_setOw, v_ret, v_drop, v_for, v_lam, oCatL_le, oCatQ_le, oAdd_l, oAdd_t, oMul_l2, oMul_l3, oMul_l4, oMul_l5, Nat.reduceLeDiff, oItems_l, oItems_t, oItems_s, oItemsQ_i, oSl_l, oSl_t, oSl_sc, oTupOf_i, oLstOf_i, oSum_i, oAll_i, oAny_i, oMod_p, oDiv_p, oMul_L, oMul_R, oPow_6, oPow_12, oPow_18, oPow_20, oPow_36, oInt_i, oInt_b, oAbs_i, oLen_l, oLen_t, oLenQ_i, oIx_mu, at_0, at_1, at_2, at_3, at_4, at_5, ix5_0, ix5_1, ix5_2, ix5_3, ix5_4, Int.reduceLT, Int.reduceNeg, Int.reduceAdd, Int.reduceSub, Int.reduceMul, oAdd_i, oSub_i, oNeg_i, oLt_i, oLe_i, oGt_i, oGe_i, oMin_i, oMax_i, oEq_i, oNe_i, oEq_s, oNe_s, oIxQ_i, oIx_l, oIx_t, asB_b, asQ_l, asQ_t, v_var, var_fz, v_app, app_ow, v_ext, ext_ow, v_frzE, frs_ow, frs_fz, v_own, own_fl, own_ft, own_ow, own_sh, lp_nx, lp_ct, lp_bk, lp_rt, lp_exc, lp_bad, lp_ite, ag_some, ag_none, fl_nil, fl_cons, g_N, g_nil, g_cons, g_T, o_some, v_asg, v_try, try_exc, try_nx, try_rt, trE_rt, trE_nx, v_thkE, v_thkR, thk_rv, said_nx, said_rt, v_isE, isE_rv, v_wipeR, v_callL, callL_fn, lkL_some, v_store, may_ow, may_fz, may_t, sto_ow, sto_mu, ixO_s, List.getElem?_cons_succ, List.getElem?_cons_zero, List.set_cons_succ, List.set_cons_zero, startE, List.zipWith, List.replicate, List.length_cons, List.length_nil, List.cons_append, List.nil_append, setE, Nat.reduceSub, Nat.reduceAdd, if_true, if_false, ite_true, ite_false, Bool.not_true, Bool.not_false, Bool.false_eq_true])
  have q1 : q__law_mark_right_1 [.fz (muD 0), .fz (.str z), .un, .un, .un, .un, .un, .un] s = .ok (zs.map fun i : Nat => .int (0 + (i : Int))) s1 := q1
  have hp : ∀ p ∈ zs.take 3, p < 6 := fun p hp => by simpa using hsub.subset (List.mem_of_mem_take hp)
  have h3 : (zs.take 3).length ≤ 3 := by rw [List.length_take]; omega
  have hw : (zs.take 3).Pairwise (· < ·) := (List.pairwise_lt_range (n := 6)).sublist ((List.take_sublist 3 zs).trans hsub)
  have ec : PyData.tuple (cutL (zs.map fun i : Nat => PyData.int (0 + (i : Int))) none (some 3)) = plc (zs.take 3) := by
    unfold plc
    rw [show (3 : Int) = ((3 : Nat) : Int) from rfl, cut_h, List.map_take]
    simp only [Int.zero_add]
  have kw := W_gd h hp
  have q2 : ∀ x3 x4 x5 x6 x7, q__law_mark_right_2 [.fz (muD 0), .fz (.str z), .fz (plc (zs.take 3)), x3, x4, x5, x6, x7] s1 = .ok ((((W z (zs.take 3)).take 20).filter fun _ => true).map fun _ => PyData.bool true) s1 := fun x3 x4 x5 x6 x7 => by
    refine comp_map (xs := (W z (zs.take 3)).take 20) (f := .str) (s1 := s1) (fun _ => true) _ ?_ (by rw [List.length_take]; omega) fun x hx => ⟨_, rfl, rfl, fun _ => ?_⟩
    · have e20 : cutL ((W z (zs.take 3)).map PyData.str) none (some 20) = ((W z (zs.take 3)).take 20).map .str := by
        rw [show (20 : Int) = ((20 : Nat) : Int) from rfl, cut_h, List.map_take]
      simp (config := {implicitDefEqProofs := false}) only [b_ok, b_exc, b_bad, b_ite, l_some, l_none, of_ok, of_exc, of_bad, of_ite, sq_nx, sq_rt, sq_bk, sq_ct, sq_exc, sq_bad, sq_ite, fn_nx, fn_rt, fn_exc, fn_bad, fn_ite, v_mkF, v_seq, v_next, v_retN, v_brk, v_cont, v_raise, v_frz, v_bin, v_op1, v_c, v_nil, v_cons, v_consO, v_call, v_test, v_not, v_and, v_or, v_if, bol_b, v_andV, v_orV, v_notV, v_chain, v_lst, v_tup, szR_0, szR_1, szR_2, szR_3, szR_4, szR_5, szR_6, szR_7, szR_8, szR_9, szR_10, szR_11, szR_12, szR_13, szR_14, v_L, v_mu, v_Q, v_P0, iOf_i, v_P, v_sl, v_meth, v_par, v_ifS, v_set, v_setOw, v_ret, v_drop, v_for, v_lam, oCatL_le, oCatQ_le, oAdd_l, oAdd_t, oMul_l2, oMul_l3, oMul_l4, oMul_l5, Nat.reduceLeDiff, oItems_l, oItems_t, oItems_s, oItemsQ_i, oSl_l, oSl_t, oSl_sc, oTupOf_i, oLstOf_i, oSum_i, oAll_i, oAny_i, oMod_p, oDiv_p, oMul_L, oMul_R, oPow_6, oPow_12, oPow_18, oPow_20, oPow_36, oInt_i, oInt_b, oAbs_i, oLen_l, oLen_t, oLenQ_i, oIx_mu, at_0, at_1, at_2, at_3, at_4, at_5, ix5_0, ix5_1, ix5_2, ix5_3, ix5_4, Int.reduceLT, Int.reduceNeg, Int.reduceAdd, Int.reduceSub, Int.reduceMul, oAdd_i, oSub_i, oNeg_i, oLt_i, oLe_i, oGt_i, oGe_i, oMin_i, oMax_i, oEq_i, oNe_i, oEq_s, oNe_s, oIxQ_i, oIx_l, oIx_t, asB_b, asQ_l, asQ_t, v_var, var_fz, v_app, app_ow, v_ext, ext_ow, v_frzE, frs_ow, frs_fz, v_own, own_fl, own_ft, own_ow, own_sh, lp_nx, lp_ct, lp_bk, lp_rt, lp_exc, lp_bad, lp_ite, ag_some, ag_none, fl_nil, fl_cons, g_N, g_nil, g_cons, g_T, o_some, v_asg, v_try, try_exc, try_nx, try_rt, trE_rt, trE_nx, v_thkE, v_thkR, thk_rv, said_nx, said_rt, v_isE, isE_rv, v_wipeR, v_callL, callL_fn, lkL_some, v_store, may_ow, may_fz, may_t, sto_ow, sto_mu, ixO_s, List.getElem?_cons_succ, List.getElem?_cons_zero, List.set_cons_succ, List.set_cons_zero, startE, List.zipWith, List.replicate, List.length_cons, List.length_nil, List.cons_append, List.nil_append, setE, Nat.reduceSub, Nat.reduceAdd, if_true, if_false, ite_true, ite_false, Bool.not_true, Bool.not_false, Bool.false_eq_true,
             (e_worn h g hp h3 hw s1).1, e20]
    · obtain ⟨k1, k2⟩ := kw x (List.mem_of_mem_take hx)
      dsimp only [wipeE]
      simp (config := {implicitDefEqProofs := false}) only [b_ok, b_exc, b_bad, b_ite, l_some, l_none, of_ok, of_exc, of_bad, of_ite, sq_nx, sq_rt, sq_bk, sq_ct, sq_exc, sq_bad, sq_ite, fn_nx, fn_rt, fn_exc, fn_bad, fn_ite, v_mkF, v_seq, v_next, v_retN, v_brk, v_cont, v_raise, v_frz, v_bin, v_op1, v_c, v_nil, v_cons, v_consO, v_call, v_test, v_not, v_and, v_or, v_if, bol_b, v_andV, v_orV, v_notV, v_chain, v_lst, v_tup, szR_0, szR_1, szR_2, szR_3, szR_4, szR_5, szR_6, szR_7, szR_8, szR_9, szR_10, szR_11, szR_12, szR_13, szR_14, v_L, v_mu, v_Q, v_P0, iOf_i, v_P, v_sl, v_meth, v_par, v_ifS, v_set, v_setOw, v_ret, v_drop, v_for, v_lam, oCatL_le, oCatQ_le, oAdd_l, oAdd_t, oMul_l2, oMul_l3, oMul_l4, oMul_l5, Nat.reduceLeDiff, oItems_l, oItems_t, oItems_s, oItemsQ_i, oSl_l, oSl_t, oSl_sc, oTupOf_i, oLstOf_i, oSum_i, oAll_i, oAny_i, oMod_p, oDiv_p, oMul_L, oMul_R, oPow_6, oPow_12, oPow_18, oPow_20, oPow_36, oInt_i, oInt_b, oAbs_i, oLen_l, oLen_t, oLenQ_i, oIx_mu, at_0, at_1, at_2, at_3, at_4, at_5, ix5_0, ix5_1, ix5_2, ix5_3, ix5_4, Int.reduceLT, Int.reduceNeg, Int.reduceAdd, Int.reduceSub, Int.reduceMul, oAdd_i, oSub_i, oNeg_i, oLt_i, oLe_i, oGt_i, oGe_i, oMin_i, oMax_i, oEq_i, oNe_i, oEq_s, oNe_s, oIxQ_i, oIx_l, oIx_t, asB_b, asQ_l, asQ_t, v_var, var_fz, v_app, app_ow, v_ext, ext_ow, v_frzE, frs_ow, frs_fz, v_own, own_fl, own_ft, own_ow, own_sh, lp_nx, lp_ct, lp_bk, lp_rt, lp_exc, lp_bad, lp_ite, ag_some, ag_none, fl_nil, fl_cons, g_N, g_nil, g_cons, g_T, o_some, v_asg, v_try, try_exc, try_nx, try_rt, trE_rt, trE_nx, v_thkE, v_thkR, thk_rv, said_nx, said_rt, v_isE, isE_rv, v_wipeR, v_callL, callL_fn, lkL_some, v_store, may_ow, may_fz, may_t, sto_ow, sto_mu, ixO_s, List.getElem?_cons_succ, List.getElem?_cons_zero, List.set_cons_succ, List.set_cons_zero, startE, List.zipWith, List.replicate, List.length_cons, List.length_nil, List.cons_append, List.nil_append, setE, Nat.reduceSub, Nat.reduceAdd, if_true, if_false, ite_true, ite_false, Bool.not_true, Bool.not_false, Bool.false_eq_true,
             (e_check k1 k2 s1).2, oIs_t]
  have a2 : oAll (false, (((W z (zs.take 3)).take 20).filter fun _ => true).map fun _ => PyData.bool true) s1 = some (.bool true) := by
    have := oAll_t (n := 0) (b := true) (s := s1) ((((W z (zs.take 3)).take 20).filter fun _ => true).map fun _ => true) (fun x hx => by obtain ⟨_, _, e⟩ := List.mem_map.mp hx; exact e.symm)
    rw [List.map_map] at this
    exact this
  have t1 := e_turned h g s
  have w1 := e_worn h g hp h3 hw s1
  have w0 := (e_worn h g (ps := []) (by simp) (by simp) List.Pairwise.nil s1).1
  have e0 : plc [] = .tuple [] := rfl
  rw [e0, W_nil g] at w0
  have n1 : oNe (.tuple ((tnd z).map .str)) (.tuple ((tnd z).map .str)) s = some (.bool false) := oNe_ss (tnd_ok h)
  have n2 : oNe (.tuple ((W z (zs.take 3)).map .str)) (.tuple ((W z (zs.take 3)).map .str)) s1 = some (.bool false) := oNe_ss fun x hx => six_ok (kw x hx).1
  have n3 : oNe (.tuple [.str z]) (.tuple [.str z]) s1 = some (.bool false) := oNe_ss (xs := [z]) fun x hx => by
    have : x = z := by simpa using hx
    rw [this]
    exact six_ok h
  obtain ⟨o, s2, eo, so, go, hs2⟩ := e_law_marks hs1
  obtain ⟨t, s3, et, sT, gt, hs3⟩ := e_law_marks hs2
  obtain ⟨f1, f2, f3⟩ := tn_facts h so sT
  refine ⟨s3, ?_, hs3⟩
  unfold mf__law_mark_right m__law_mark_right
  simp (config := {implicitDefEqProofs := false}) only [b_ok, b_exc, b_bad, b_ite, l_some, l_none, of_ok, of_exc, of_bad, of_ite, sq_nx, sq_rt, sq_bk, sq_ct, sq_exc, sq_bad, sq_ite, fn_nx, fn_rt, fn_exc, fn_bad, fn_ite, v_mkF, v_seq, v_next, v_retN, v_brk, v_cont, v_raise, v_frz, v_bin, v_op1, v_c, v_nil, v_cons, v_consO, v_call, v_test, v_not, v_and, v_or, v_if, bol_b, v_andV, v_orV, v_notV, v_chain, v_lst, v_tup, szR_0, szR_1, szR_2, szR_3, szR_4, szR_5, szR_6, szR_7, szR_8, szR_9, szR_10, szR_11, szR_12, szR_13, szR_14, v_L, v_mu, v_Q, v_P0, iOf_i, v_P, v_sl, v_meth, v_par, v_ifS, v_set, v_setOw, v_ret, v_drop, v_for, v_lam, oCatL_le, oCatQ_le, oAdd_l, oAdd_t, oMul_l2, oMul_l3, oMul_l4, oMul_l5, Nat.reduceLeDiff, oItems_l, oItems_t, oItems_s, oItemsQ_i, oSl_l, oSl_t, oSl_sc, oTupOf_i, oLstOf_i, oSum_i, oAll_i, oAny_i, oMod_p, oDiv_p, oMul_L, oMul_R, oPow_6, oPow_12, oPow_18, oPow_20, oPow_36, oInt_i, oInt_b, oAbs_i, oLen_l, oLen_t, oLenQ_i, oIx_mu, at_0, at_1, at_2, at_3, at_4, at_5, ix5_0, ix5_1, ix5_2, ix5_3, ix5_4, Int.reduceLT, Int.reduceNeg, Int.reduceAdd, Int.reduceSub, Int.reduceMul, oAdd_i, oSub_i, oNeg_i, oLt_i, oLe_i, oGt_i, oGe_i, oMin_i, oMax_i, oEq_i, oNe_i, oEq_s, oNe_s, oIxQ_i, oIx_l, oIx_t, asB_b, asQ_l, asQ_t, v_var, var_fz, v_app, app_ow, v_ext, ext_ow, v_frzE, frs_ow, frs_fz, v_own, own_fl, own_ft, own_ow, own_sh, lp_nx, lp_ct, lp_bk, lp_rt, lp_exc, lp_bad, lp_ite, ag_some, ag_none, fl_nil, fl_cons, g_N, g_nil, g_cons, g_T, o_some, v_asg, v_try, try_exc, try_nx, try_rt, trE_rt, trE_nx, v_thkE, v_thkR, thk_rv, said_nx, said_rt, v_isE, isE_rv, v_wipeR, v_callL, callL_fn, lkL_some, v_store, may_ow, may_fz, may_t, sto_ow, sto_mu, ixO_s, List.getElem?_cons_succ, List.getElem?_cons_zero, List.set_cons_succ, List.set_cons_zero, startE, List.zipWith, List.replicate, List.length_cons, List.length_nil, List.cons_append, List.nil_append, setE, Nat.reduceSub, Nat.reduceAdd, if_true, if_false, ite_true, ite_false, Bool.not_true, Bool.not_false, Bool.false_eq_true,
         t1.1, t1.2, n1, q1, ec, w1.1, w1.2, n2, w0, List.map_cons, List.map_nil, n3, q2, a2, eo, et, e_turns h g so go, e_turns so go h g, e_turns h g h g, e_turns h g sT gt, e_turns sT gt so go, e_law_steps h so, f2, f3, beq_self_eq_true, decide_eq_true f1]
end K76

set_option Elab.async false
set_option maxRecDepth 100000
set_option maxHeartbeats 1000000
set_option linter.all false
namespace K76
open PySem Dn
theorem word_mark {s : S} : runSaid 3 ms__law_word (fun s1 => R.exc (eX "BadMark") s1) s = .ok (.str "mark") s := by
  rw [v_said]
  unfold ms__law_word
  have hp : pfX (eX "BadMark") = true := by decide +kernel
  simp (config := {implicitDefEqProofs := false}) only [b_ok, b_exc, b_bad, b_ite, l_some, l_none, of_ok, of_exc, of_bad, of_ite, sq_nx, sq_rt, sq_bk, sq_ct, sq_exc, sq_bad, sq_ite, fn_nx, fn_rt, fn_exc, fn_bad, fn_ite, v_mkF, v_seq, v_next, v_retN, v_brk, v_cont, v_raise, v_frz, v_bin, v_op1, v_c, v_nil, v_cons, v_consO, v_call, v_test, v_not, v_and, v_or, v_if, bol_b, v_andV, v_orV, v_notV, v_chain, v_lst, v_tup, szR_0, szR_1, szR_2, szR_3, szR_4, szR_5, szR_6, szR_7, szR_8, szR_9, szR_10, szR_11, szR_12, szR_13, szR_14, v_L, v_mu, v_Q, v_P0, iOf_i, v_P, v_sl, v_meth, v_par, v_ifS, v_set, v_setOw, v_ret, v_drop, v_for, v_lam, oCatL_le, oCatQ_le, oAdd_l, oAdd_t, oMul_l2, oMul_l3, oMul_l4, oMul_l5, Nat.reduceLeDiff, oItems_l, oItems_t, oItems_s, oItemsQ_i, oSl_l, oSl_t, oSl_sc, oTupOf_i, oLstOf_i, oSum_i, oAll_i, oAny_i, oMod_p, oDiv_p, oMul_L, oMul_R, oPow_6, oPow_12, oPow_18, oPow_20, oPow_36, oInt_i, oInt_b, oAbs_i, oLen_l, oLen_t, oLenQ_i, oIx_mu, at_0, at_1, at_2, at_3, at_4, at_5, ix5_0, ix5_1, ix5_2, ix5_3, ix5_4, Int.reduceLT, Int.reduceNeg, Int.reduceAdd, Int.reduceSub, Int.reduceMul, oAdd_i, oSub_i, oNeg_i, oLt_i, oLe_i, oGt_i, oGe_i, oMin_i, oMax_i, oEq_i, oNe_i, oEq_s, oNe_s, oIxQ_i, oIx_l, oIx_t, asB_b, asQ_l, asQ_t, v_var, var_fz, v_app, app_ow, v_ext, ext_ow, v_frzE, frs_ow, frs_fz, v_own, own_fl, own_ft, own_ow, own_sh, lp_nx, lp_ct, lp_bk, lp_rt, lp_exc, lp_bad, lp_ite, ag_some, ag_none, fl_nil, fl_cons, g_N, g_nil, g_cons, g_T, o_some, v_asg, v_try, try_exc, try_nx, try_rt, trE_rt, trE_nx, v_thkE, v_thkR, thk_rv, said_nx, said_rt, v_isE, isE_rv, v_wipeR, v_callL, callL_fn, lkL_some, v_store, may_ow, may_fz, may_t, sto_ow, sto_mu, ixO_s, List.getElem?_cons_succ, List.getElem?_cons_zero, List.set_cons_succ, List.set_cons_zero, startE, List.zipWith, List.replicate, List.length_cons, List.length_nil, List.cons_append, List.nil_append, setE, Nat.reduceSub, Nat.reduceAdd, if_true, if_false, ite_true, ite_false, Bool.not_true, Bool.not_false, Bool.false_eq_true,
         hp]
  rfl
theorem word_places {s : S} : runSaid 3 ms__law_word (fun s1 => R.exc (eX "BadPlaces") s1) s = .ok (.str "places") s := by
  rw [v_said]
  unfold ms__law_word
  have hp : pfX (eX "BadPlaces") = true := by decide +kernel
  simp (config := {implicitDefEqProofs := false}) only [b_ok, b_exc, b_bad, b_ite, l_some, l_none, of_ok, of_exc, of_bad, of_ite, sq_nx, sq_rt, sq_bk, sq_ct, sq_exc, sq_bad, sq_ite, fn_nx, fn_rt, fn_exc, fn_bad, fn_ite, v_mkF, v_seq, v_next, v_retN, v_brk, v_cont, v_raise, v_frz, v_bin, v_op1, v_c, v_nil, v_cons, v_consO, v_call, v_test, v_not, v_and, v_or, v_if, bol_b, v_andV, v_orV, v_notV, v_chain, v_lst, v_tup, szR_0, szR_1, szR_2, szR_3, szR_4, szR_5, szR_6, szR_7, szR_8, szR_9, szR_10, szR_11, szR_12, szR_13, szR_14, v_L, v_mu, v_Q, v_P0, iOf_i, v_P, v_sl, v_meth, v_par, v_ifS, v_set, v_setOw, v_ret, v_drop, v_for, v_lam, oCatL_le, oCatQ_le, oAdd_l, oAdd_t, oMul_l2, oMul_l3, oMul_l4, oMul_l5, Nat.reduceLeDiff, oItems_l, oItems_t, oItems_s, oItemsQ_i, oSl_l, oSl_t, oSl_sc, oTupOf_i, oLstOf_i, oSum_i, oAll_i, oAny_i, oMod_p, oDiv_p, oMul_L, oMul_R, oPow_6, oPow_12, oPow_18, oPow_20, oPow_36, oInt_i, oInt_b, oAbs_i, oLen_l, oLen_t, oLenQ_i, oIx_mu, at_0, at_1, at_2, at_3, at_4, at_5, ix5_0, ix5_1, ix5_2, ix5_3, ix5_4, Int.reduceLT, Int.reduceNeg, Int.reduceAdd, Int.reduceSub, Int.reduceMul, oAdd_i, oSub_i, oNeg_i, oLt_i, oLe_i, oGt_i, oGe_i, oMin_i, oMax_i, oEq_i, oNe_i, oEq_s, oNe_s, oIxQ_i, oIx_l, oIx_t, asB_b, asQ_l, asQ_t, v_var, var_fz, v_app, app_ow, v_ext, ext_ow, v_frzE, frs_ow, frs_fz, v_own, own_fl, own_ft, own_ow, own_sh, lp_nx, lp_ct, lp_bk, lp_rt, lp_exc, lp_bad, lp_ite, ag_some, ag_none, fl_nil, fl_cons, g_N, g_nil, g_cons, g_T, o_some, v_asg, v_try, try_exc, try_nx, try_rt, trE_rt, trE_nx, v_thkE, v_thkR, thk_rv, said_nx, said_rt, v_isE, isE_rv, v_wipeR, v_callL, callL_fn, lkL_some, v_store, may_ow, may_fz, may_t, sto_ow, sto_mu, ixO_s, List.getElem?_cons_succ, List.getElem?_cons_zero, List.set_cons_succ, List.set_cons_zero, startE, List.zipWith, List.replicate, List.length_cons, List.length_nil, List.cons_append, List.nil_append, setE, Nat.reduceSub, Nat.reduceAdd, if_true, if_false, ite_true, ite_false, Bool.not_true, Bool.not_false, Bool.false_eq_true,
         hp]
  rfl
theorem check_bad {d : D} (h : ∀ s, mf_are_mark [d] s = .ok (.bool false) s) (s : S) : mf_check_mark [d] s = .exc (eX "BadMark") s := by
  unfold mf_check_mark m_check_mark
  simp (config := {implicitDefEqProofs := false}) only [b_ok, b_exc, b_bad, b_ite, l_some, l_none, of_ok, of_exc, of_bad, of_ite, sq_nx, sq_rt, sq_bk, sq_ct, sq_exc, sq_bad, sq_ite, fn_nx, fn_rt, fn_exc, fn_bad, fn_ite, v_mkF, v_seq, v_next, v_retN, v_brk, v_cont, v_raise, v_frz, v_bin, v_op1, v_c, v_nil, v_cons, v_consO, v_call, v_test, v_not, v_and, v_or, v_if, bol_b, v_andV, v_orV, v_notV, v_chain, v_lst, v_tup, szR_0, szR_1, szR_2, szR_3, szR_4, szR_5, szR_6, szR_7, szR_8, szR_9, szR_10, szR_11, szR_12, szR_13, szR_14, v_L, v_mu, v_Q, v_P0, iOf_i, v_P, v_sl, v_meth, v_par, v_ifS, v_set, v_setOw, v_ret, v_drop, v_for, v_lam, oCatL_le, oCatQ_le, oAdd_l, oAdd_t, oMul_l2, oMul_l3, oMul_l4, oMul_l5, Nat.reduceLeDiff, oItems_l, oItems_t, oItems_s, oItemsQ_i, oSl_l, oSl_t, oSl_sc, oTupOf_i, oLstOf_i, oSum_i, oAll_i, oAny_i, oMod_p, oDiv_p, oMul_L, oMul_R, oPow_6, oPow_12, oPow_18, oPow_20, oPow_36, oInt_i, oInt_b, oAbs_i, oLen_l, oLen_t, oLenQ_i, oIx_mu, at_0, at_1, at_2, at_3, at_4, at_5, ix5_0, ix5_1, ix5_2, ix5_3, ix5_4, Int.reduceLT, Int.reduceNeg, Int.reduceAdd, Int.reduceSub, Int.reduceMul, oAdd_i, oSub_i, oNeg_i, oLt_i, oLe_i, oGt_i, oGe_i, oMin_i, oMax_i, oEq_i, oNe_i, oEq_s, oNe_s, oIxQ_i, oIx_l, oIx_t, asB_b, asQ_l, asQ_t, v_var, var_fz, v_app, app_ow, v_ext, ext_ow, v_frzE, frs_ow, frs_fz, v_own, own_fl, own_ft, own_ow, own_sh, lp_nx, lp_ct, lp_bk, lp_rt, lp_exc, lp_bad, lp_ite, ag_some, ag_none, fl_nil, fl_cons, g_N, g_nil, g_cons, g_T, o_some, v_asg, v_try, try_exc, try_nx, try_rt, trE_rt, trE_nx, v_thkE, v_thkR, thk_rv, said_nx, said_rt, v_isE, isE_rv, v_wipeR, v_callL, callL_fn, lkL_some, v_store, may_ow, may_fz, may_t, sto_ow, sto_mu, ixO_s, List.getElem?_cons_succ, List.getElem?_cons_zero, List.set_cons_succ, List.set_cons_zero, startE, List.zipWith, List.replicate, List.length_cons, List.length_nil, List.cons_append, List.nil_append, setE, Nat.reduceSub, Nat.reduceAdd, if_true, if_false, ite_true, ite_false, Bool.not_true, Bool.not_false, Bool.false_eq_true,
         h]
  rfl
theorem e_refused_right {s : S} (hs : Hand s) {z : Str} (h : six z = true) (g : gd z = true) : ∃ s', mf__law_refused_right [muD 0, .str z] s = .ok (.bool true) s' ∧ Hand s' := by
  obtain ⟨a, s1, e1, ha, hs1⟩ := e_any hs (ds := [.none, .int 0, .str "", .str "290201", .str "310400", .str "000100", .str "010000", .str "011300", .str "10101", .str "0101000", .list [.str "010100"]]) (by simp) (by simp)
  obtain ⟨b, s2, e2, hb, hs2⟩ := e_any hs1 (ds := [.none, .int 0, .list [.int 0], .tuple [.int 6], .tuple [.int (-1)], .tuple [.int 1, .int 0], .tuple [.int 2, .int 2], .tuple [.int 0, .int 1, .int 2, .int 3], .tuple [.bool true], .tuple [.str "0"], .tuple [.none], eD]) (by simp) (by simp)
  have bad : ∀ s, mf_are_mark [a] s = .ok (.bool false) s := fun s => by
    simp only [List.mem_cons, List.mem_nil_iff, or_false] at ha
    rcases ha with rfl | rfl | rfl | rfl | rfl | rfl | rfl | rfl | rfl | rfl | rfl <;> kernel_rfl
  have odd : (∀ s, mf_is_row [b, .int 6] s = .ok (.bool false) s) ∨ (∀ s, mf_is_row [b, .int 6] s = .ok (.bool true) s) ∧ ∀ s, oLen b s = some (.int 4) := by
    simp only [List.mem_cons, List.mem_nil_iff, or_false] at hb
    rcases hb with rfl | rfl | rfl | rfl | rfl | rfl | rfl | rfl | rfl | rfl | rfl | rfl
    · exact .inl fun s => by kernel_rfl
    · exact .inl fun s => by kernel_rfl
    · exact .inl fun s => by kernel_rfl
    · exact .inl fun s => by kernel_rfl
    · exact .inl fun s => by kernel_rfl
    · exact .inl fun s => by kernel_rfl
    · exact .inl fun s => by kernel_rfl
    · exact .inr ⟨fun s => by kernel_rfl, fun s => rfl⟩
    · exact .inl fun s => by kernel_rfl
    · exact .inl fun s => by kernel_rfl
    · exact .inl fun s => by kernel_rfl
    · exact .inl fun s => by kernel_rfl
  have n1 : ∀ s, mf_turned_marks [a] s = .exc (eX "BadMark") s := fun s => by
    unfold mf_turned_marks m_turned_marks; simp (config := {implicitDefEqProofs := false}) only [b_ok, b_exc, b_bad, b_ite, l_some, l_none, of_ok, of_exc, of_bad, of_ite, sq_nx, sq_rt, sq_bk, sq_ct, sq_exc, sq_bad, sq_ite, fn_nx, fn_rt, fn_exc, fn_bad, fn_ite, v_mkF, v_seq, v_next, v_retN, v_brk, v_cont, v_raise, v_frz, v_bin, v_op1, v_c, v_nil, v_cons, v_consO, v_call, v_test, v_not, v_and, v_or, v_if, bol_b, v_andV, v_orV, v_notV, v_chain, v_lst, v_tup, szR_0, szR_1, szR_2, szR_3, szR_4, szR_5, szR_6, szR_7, szR_8, szR_9, szR_10, szR_11, szR_12, szR_13, szR_14, v_L, v_mu, v_Q, v_P0, iOf_i, v_P, v_sl, v_meth, v_par, v_ifS, v_set, v_setOw, v_ret, v_drop, v_for, v_lam, oCatL_le, oCatQ_le, oAdd_l, oAdd_t, oMul_l2, oMul_l3, oMul_l4, oMul_l5, Nat.reduceLeDiff, oItems_l, oItems_t, oItems_s, oItemsQ_i, oSl_l, oSl_t, oSl_sc, oTupOf_i, oLstOf_i, oSum_i, oAll_i, oAny_i, oMod_p, oDiv_p, oMul_L, oMul_R, oPow_6, oPow_12, oPow_18, oPow_20, oPow_36, oInt_i, oInt_b, oAbs_i, oLen_l, oLen_t, oLenQ_i, oIx_mu, at_0, at_1, at_2, at_3, at_4, at_5, ix5_0, ix5_1, ix5_2, ix5_3, ix5_4, Int.reduceLT, Int.reduceNeg, Int.reduceAdd, Int.reduceSub, Int.reduceMul, oAdd_i, oSub_i, oNeg_i, oLt_i, oLe_i, oGt_i, oGe_i, oMin_i, oMax_i, oEq_i, oNe_i, oEq_s, oNe_s, oIxQ_i, oIx_l, oIx_t, asB_b, asQ_l, asQ_t, v_var, var_fz, v_app, app_ow, v_ext, ext_ow, v_frzE, frs_ow, frs_fz, v_own, own_fl, own_ft, own_ow, own_sh, lp_nx, lp_ct, lp_bk, lp_rt, lp_exc, lp_bad, lp_ite, ag_some, ag_none, fl_nil, fl_cons, g_N, g_nil, g_cons, g_T, o_some, v_asg, v_try, try_exc, try_nx, try_rt, trE_rt, trE_nx, v_thkE, v_thkR, thk_rv, said_nx, said_rt, v_isE, isE_rv, v_wipeR, v_callL, callL_fn, lkL_some, v_store, may_ow, may_fz, may_t, sto_ow, sto_mu, ixO_s, List.getElem?_cons_succ, List.getElem?_cons_zero, List.set_cons_succ, List.set_cons_zero, startE, List.zipWith, List.replicate, List.length_cons, List.length_nil, List.cons_append, List.nil_append, setE, Nat.reduceSub, Nat.reduceAdd, if_true, if_false, ite_true, ite_false, Bool.not_true, Bool.not_false, Bool.false_eq_true,
                                                  check_bad bad]
  have n2 : ∀ s, mf_fewest_turns [a, .str z] s = .exc (eX "BadMark") s := fun s => by
    unfold mf_fewest_turns m_fewest_turns; simp (config := {implicitDefEqProofs := false}) only [b_ok, b_exc, b_bad, b_ite, l_some, l_none, of_ok, of_exc, of_bad, of_ite, sq_nx, sq_rt, sq_bk, sq_ct, sq_exc, sq_bad, sq_ite, fn_nx, fn_rt, fn_exc, fn_bad, fn_ite, v_mkF, v_seq, v_next, v_retN, v_brk, v_cont, v_raise, v_frz, v_bin, v_op1, v_c, v_nil, v_cons, v_consO, v_call, v_test, v_not, v_and, v_or, v_if, bol_b, v_andV, v_orV, v_notV, v_chain, v_lst, v_tup, szR_0, szR_1, szR_2, szR_3, szR_4, szR_5, szR_6, szR_7, szR_8, szR_9, szR_10, szR_11, szR_12, szR_13, szR_14, v_L, v_mu, v_Q, v_P0, iOf_i, v_P, v_sl, v_meth, v_par, v_ifS, v_set, v_setOw, v_ret, v_drop, v_for, v_lam, oCatL_le, oCatQ_le, oAdd_l, oAdd_t, oMul_l2, oMul_l3, oMul_l4, oMul_l5, Nat.reduceLeDiff, oItems_l, oItems_t, oItems_s, oItemsQ_i, oSl_l, oSl_t, oSl_sc, oTupOf_i, oLstOf_i, oSum_i, oAll_i, oAny_i, oMod_p, oDiv_p, oMul_L, oMul_R, oPow_6, oPow_12, oPow_18, oPow_20, oPow_36, oInt_i, oInt_b, oAbs_i, oLen_l, oLen_t, oLenQ_i, oIx_mu, at_0, at_1, at_2, at_3, at_4, at_5, ix5_0, ix5_1, ix5_2, ix5_3, ix5_4, Int.reduceLT, Int.reduceNeg, Int.reduceAdd, Int.reduceSub, Int.reduceMul, oAdd_i, oSub_i, oNeg_i, oLt_i, oLe_i, oGt_i, oGe_i, oMin_i, oMax_i, oEq_i, oNe_i, oEq_s, oNe_s, oIxQ_i, oIx_l, oIx_t, asB_b, asQ_l, asQ_t, v_var, var_fz, v_app, app_ow, v_ext, ext_ow, v_frzE, frs_ow, frs_fz, v_own, own_fl, own_ft, own_ow, own_sh, lp_nx, lp_ct, lp_bk, lp_rt, lp_exc, lp_bad, lp_ite, ag_some, ag_none, fl_nil, fl_cons, g_N, g_nil, g_cons, g_T, o_some, v_asg, v_try, try_exc, try_nx, try_rt, trE_rt, trE_nx, v_thkE, v_thkR, thk_rv, said_nx, said_rt, v_isE, isE_rv, v_wipeR, v_callL, callL_fn, lkL_some, v_store, may_ow, may_fz, may_t, sto_ow, sto_mu, ixO_s, List.getElem?_cons_succ, List.getElem?_cons_zero, List.set_cons_succ, List.set_cons_zero, startE, List.zipWith, List.replicate, List.length_cons, List.length_nil, List.cons_append, List.nil_append, setE, Nat.reduceSub, Nat.reduceAdd, if_true, if_false, ite_true, ite_false, Bool.not_true, Bool.not_false, Bool.false_eq_true,
                                                  check_bad bad]
  have n3 : ∀ s, mf_fewest_turns [.str z, a] s = .exc (eX "BadMark") s := fun s => by
    unfold mf_fewest_turns m_fewest_turns; simp (config := {implicitDefEqProofs := false}) only [b_ok, b_exc, b_bad, b_ite, l_some, l_none, of_ok, of_exc, of_bad, of_ite, sq_nx, sq_rt, sq_bk, sq_ct, sq_exc, sq_bad, sq_ite, fn_nx, fn_rt, fn_exc, fn_bad, fn_ite, v_mkF, v_seq, v_next, v_retN, v_brk, v_cont, v_raise, v_frz, v_bin, v_op1, v_c, v_nil, v_cons, v_consO, v_call, v_test, v_not, v_and, v_or, v_if, bol_b, v_andV, v_orV, v_notV, v_chain, v_lst, v_tup, szR_0, szR_1, szR_2, szR_3, szR_4, szR_5, szR_6, szR_7, szR_8, szR_9, szR_10, szR_11, szR_12, szR_13, szR_14, v_L, v_mu, v_Q, v_P0, iOf_i, v_P, v_sl, v_meth, v_par, v_ifS, v_set, v_setOw, v_ret, v_drop, v_for, v_lam, oCatL_le, oCatQ_le, oAdd_l, oAdd_t, oMul_l2, oMul_l3, oMul_l4, oMul_l5, Nat.reduceLeDiff, oItems_l, oItems_t, oItems_s, oItemsQ_i, oSl_l, oSl_t, oSl_sc, oTupOf_i, oLstOf_i, oSum_i, oAll_i, oAny_i, oMod_p, oDiv_p, oMul_L, oMul_R, oPow_6, oPow_12, oPow_18, oPow_20, oPow_36, oInt_i, oInt_b, oAbs_i, oLen_l, oLen_t, oLenQ_i, oIx_mu, at_0, at_1, at_2, at_3, at_4, at_5, ix5_0, ix5_1, ix5_2, ix5_3, ix5_4, Int.reduceLT, Int.reduceNeg, Int.reduceAdd, Int.reduceSub, Int.reduceMul, oAdd_i, oSub_i, oNeg_i, oLt_i, oLe_i, oGt_i, oGe_i, oMin_i, oMax_i, oEq_i, oNe_i, oEq_s, oNe_s, oIxQ_i, oIx_l, oIx_t, asB_b, asQ_l, asQ_t, v_var, var_fz, v_app, app_ow, v_ext, ext_ow, v_frzE, frs_ow, frs_fz, v_own, own_fl, own_ft, own_ow, own_sh, lp_nx, lp_ct, lp_bk, lp_rt, lp_exc, lp_bad, lp_ite, ag_some, ag_none, fl_nil, fl_cons, g_N, g_nil, g_cons, g_T, o_some, v_asg, v_try, try_exc, try_nx, try_rt, trE_rt, trE_nx, v_thkE, v_thkR, thk_rv, said_nx, said_rt, v_isE, isE_rv, v_wipeR, v_callL, callL_fn, lkL_some, v_store, may_ow, may_fz, may_t, sto_ow, sto_mu, ixO_s, List.getElem?_cons_succ, List.getElem?_cons_zero, List.set_cons_succ, List.set_cons_zero, startE, List.zipWith, List.replicate, List.length_cons, List.length_nil, List.cons_append, List.nil_append, setE, Nat.reduceSub, Nat.reduceAdd, if_true, if_false, ite_true, ite_false, Bool.not_true, Bool.not_false, Bool.false_eq_true,
                                                  (e_check h g s).1, check_bad bad]
  have n4 : ∀ s, mf_worn [a, b] s = .exc (eX "BadMark") s := fun s => by
    unfold mf_worn m_worn; simp (config := {implicitDefEqProofs := false}) only [b_ok, b_exc, b_bad, b_ite, l_some, l_none, of_ok, of_exc, of_bad, of_ite, sq_nx, sq_rt, sq_bk, sq_ct, sq_exc, sq_bad, sq_ite, fn_nx, fn_rt, fn_exc, fn_bad, fn_ite, v_mkF, v_seq, v_next, v_retN, v_brk, v_cont, v_raise, v_frz, v_bin, v_op1, v_c, v_nil, v_cons, v_consO, v_call, v_test, v_not, v_and, v_or, v_if, bol_b, v_andV, v_orV, v_notV, v_chain, v_lst, v_tup, szR_0, szR_1, szR_2, szR_3, szR_4, szR_5, szR_6, szR_7, szR_8, szR_9, szR_10, szR_11, szR_12, szR_13, szR_14, v_L, v_mu, v_Q, v_P0, iOf_i, v_P, v_sl, v_meth, v_par, v_ifS, v_set, v_setOw, v_ret, v_drop, v_for, v_lam, oCatL_le, oCatQ_le, oAdd_l, oAdd_t, oMul_l2, oMul_l3, oMul_l4, oMul_l5, Nat.reduceLeDiff, oItems_l, oItems_t, oItems_s, oItemsQ_i, oSl_l, oSl_t, oSl_sc, oTupOf_i, oLstOf_i, oSum_i, oAll_i, oAny_i, oMod_p, oDiv_p, oMul_L, oMul_R, oPow_6, oPow_12, oPow_18, oPow_20, oPow_36, oInt_i, oInt_b, oAbs_i, oLen_l, oLen_t, oLenQ_i, oIx_mu, at_0, at_1, at_2, at_3, at_4, at_5, ix5_0, ix5_1, ix5_2, ix5_3, ix5_4, Int.reduceLT, Int.reduceNeg, Int.reduceAdd, Int.reduceSub, Int.reduceMul, oAdd_i, oSub_i, oNeg_i, oLt_i, oLe_i, oGt_i, oGe_i, oMin_i, oMax_i, oEq_i, oNe_i, oEq_s, oNe_s, oIxQ_i, oIx_l, oIx_t, asB_b, asQ_l, asQ_t, v_var, var_fz, v_app, app_ow, v_ext, ext_ow, v_frzE, frs_ow, frs_fz, v_own, own_fl, own_ft, own_ow, own_sh, lp_nx, lp_ct, lp_bk, lp_rt, lp_exc, lp_bad, lp_ite, ag_some, ag_none, fl_nil, fl_cons, g_N, g_nil, g_cons, g_T, o_some, v_asg, v_try, try_exc, try_nx, try_rt, trE_rt, trE_nx, v_thkE, v_thkR, thk_rv, said_nx, said_rt, v_isE, isE_rv, v_wipeR, v_callL, callL_fn, lkL_some, v_store, may_ow, may_fz, may_t, sto_ow, sto_mu, ixO_s, List.getElem?_cons_succ, List.getElem?_cons_zero, List.set_cons_succ, List.set_cons_zero, startE, List.zipWith, List.replicate, List.length_cons, List.length_nil, List.cons_append, List.nil_append, setE, Nat.reduceSub, Nat.reduceAdd, if_true, if_false, ite_true, ite_false, Bool.not_true, Bool.not_false, Bool.false_eq_true,
                                  check_bad bad]
  have n5 : ∀ s, mf_worn [.str z, b] s = .exc (eX "BadPlaces") s := fun s => by
    unfold mf_worn m_worn
    rcases odd with o | ⟨o, o2⟩
    · simp (config := {implicitDefEqProofs := false}) only [b_ok, b_exc, b_bad, b_ite, l_some, l_none, of_ok, of_exc, of_bad, of_ite, sq_nx, sq_rt, sq_bk, sq_ct, sq_exc, sq_bad, sq_ite, fn_nx, fn_rt, fn_exc, fn_bad, fn_ite, v_mkF, v_seq, v_next, v_retN, v_brk, v_cont, v_raise, v_frz, v_bin, v_op1, v_c, v_nil, v_cons, v_consO, v_call, v_test, v_not, v_and, v_or, v_if, bol_b, v_andV, v_orV, v_notV, v_chain, v_lst, v_tup, szR_0, szR_1, szR_2, szR_3, szR_4, szR_5, szR_6, szR_7, szR_8, szR_9, szR_10, szR_11, szR_12, szR_13, szR_14, v_L, v_mu, v_Q, v_P0, iOf_i, v_P, v_sl, v_meth, v_par, v_ifS, v_set, v_setOw, v_ret, v_drop, v_for, v_lam, oCatL_le, oCatQ_le, oAdd_l, oAdd_t, oMul_l2, oMul_l3, oMul_l4, oMul_l5, Nat.reduceLeDiff, oItems_l, oItems_t, oItems_s, oItemsQ_i, oSl_l, oSl_t, oSl_sc, oTupOf_i, oLstOf_i, oSum_i, oAll_i, oAny_i, oMod_p, oDiv_p, oMul_L, oMul_R, oPow_6, oPow_12, oPow_18, oPow_20, oPow_36, oInt_i, oInt_b, oAbs_i, oLen_l, oLen_t, oLenQ_i, oIx_mu, at_0, at_1, at_2, at_3, at_4, at_5, ix5_0, ix5_1, ix5_2, ix5_3, ix5_4, Int.reduceLT, Int.reduceNeg, Int.reduceAdd, Int.reduceSub, Int.reduceMul, oAdd_i, oSub_i, oNeg_i, oLt_i, oLe_i, oGt_i, oGe_i, oMin_i, oMax_i, oEq_i, oNe_i, oEq_s, oNe_s, oIxQ_i, oIx_l, oIx_t, asB_b, asQ_l, asQ_t, v_var, var_fz, v_app, app_ow, v_ext, ext_ow, v_frzE, frs_ow, frs_fz, v_own, own_fl, own_ft, own_ow, own_sh, lp_nx, lp_ct, lp_bk, lp_rt, lp_exc, lp_bad, lp_ite, ag_some, ag_none, fl_nil, fl_cons, g_N, g_nil, g_cons, g_T, o_some, v_asg, v_try, try_exc, try_nx, try_rt, trE_rt, trE_nx, v_thkE, v_thkR, thk_rv, said_nx, said_rt, v_isE, isE_rv, v_wipeR, v_callL, callL_fn, lkL_some, v_store, may_ow, may_fz, may_t, sto_ow, sto_mu, ixO_s, List.getElem?_cons_succ, List.getElem?_cons_zero, List.set_cons_succ, List.set_cons_zero, startE, List.zipWith, List.replicate, List.length_cons, List.length_nil, List.cons_append, List.nil_append, setE, Nat.reduceSub, Nat.reduceAdd, if_true, if_false, ite_true, ite_false, Bool.not_true, Bool.not_false, Bool.false_eq_true,
             (e_check h g s).1, o]
      rfl
    · simp (config := {implicitDefEqProofs := false}) only [b_ok, b_exc, b_bad, b_ite, l_some, l_none, of_ok, of_exc, of_bad, of_ite, sq_nx, sq_rt, sq_bk, sq_ct, sq_exc, sq_bad, sq_ite, fn_nx, fn_rt, fn_exc, fn_bad, fn_ite, v_mkF, v_seq, v_next, v_retN, v_brk, v_cont, v_raise, v_frz, v_bin, v_op1, v_c, v_nil, v_cons, v_consO, v_call, v_test, v_not, v_and, v_or, v_if, bol_b, v_andV, v_orV, v_notV, v_chain, v_lst, v_tup, szR_0, szR_1, szR_2, szR_3, szR_4, szR_5, szR_6, szR_7, szR_8, szR_9, szR_10, szR_11, szR_12, szR_13, szR_14, v_L, v_mu, v_Q, v_P0, iOf_i, v_P, v_sl, v_meth, v_par, v_ifS, v_set, v_setOw, v_ret, v_drop, v_for, v_lam, oCatL_le, oCatQ_le, oAdd_l, oAdd_t, oMul_l2, oMul_l3, oMul_l4, oMul_l5, Nat.reduceLeDiff, oItems_l, oItems_t, oItems_s, oItemsQ_i, oSl_l, oSl_t, oSl_sc, oTupOf_i, oLstOf_i, oSum_i, oAll_i, oAny_i, oMod_p, oDiv_p, oMul_L, oMul_R, oPow_6, oPow_12, oPow_18, oPow_20, oPow_36, oInt_i, oInt_b, oAbs_i, oLen_l, oLen_t, oLenQ_i, oIx_mu, at_0, at_1, at_2, at_3, at_4, at_5, ix5_0, ix5_1, ix5_2, ix5_3, ix5_4, Int.reduceLT, Int.reduceNeg, Int.reduceAdd, Int.reduceSub, Int.reduceMul, oAdd_i, oSub_i, oNeg_i, oLt_i, oLe_i, oGt_i, oGe_i, oMin_i, oMax_i, oEq_i, oNe_i, oEq_s, oNe_s, oIxQ_i, oIx_l, oIx_t, asB_b, asQ_l, asQ_t, v_var, var_fz, v_app, app_ow, v_ext, ext_ow, v_frzE, frs_ow, frs_fz, v_own, own_fl, own_ft, own_ow, own_sh, lp_nx, lp_ct, lp_bk, lp_rt, lp_exc, lp_bad, lp_ite, ag_some, ag_none, fl_nil, fl_cons, g_N, g_nil, g_cons, g_T, o_some, v_asg, v_try, try_exc, try_nx, try_rt, trE_rt, trE_nx, v_thkE, v_thkR, thk_rv, said_nx, said_rt, v_isE, isE_rv, v_wipeR, v_callL, callL_fn, lkL_some, v_store, may_ow, may_fz, may_t, sto_ow, sto_mu, ixO_s, List.getElem?_cons_succ, List.getElem?_cons_zero, List.set_cons_succ, List.set_cons_zero, startE, List.zipWith, List.replicate, List.length_cons, List.length_nil, List.cons_append, List.nil_append, setE, Nat.reduceSub, Nat.reduceAdd, if_true, if_false, ite_true, ite_false, Bool.not_true, Bool.not_false, Bool.false_eq_true,
             (e_check h g s).1, o, o2, show (decide ((4 : Int) > 3)) = true from rfl]
      rfl
  refine ⟨s2, ?_, hs2⟩
  unfold mf__law_refused_right m__law_refused_right
  simp (config := {implicitDefEqProofs := false}) only [b_ok, b_exc, b_bad, b_ite, l_some, l_none, of_ok, of_exc, of_bad, of_ite, sq_nx, sq_rt, sq_bk, sq_ct, sq_exc, sq_bad, sq_ite, fn_nx, fn_rt, fn_exc, fn_bad, fn_ite, v_mkF, v_seq, v_next, v_retN, v_brk, v_cont, v_raise, v_frz, v_bin, v_op1, v_c, v_nil, v_cons, v_consO, v_call, v_test, v_not, v_and, v_or, v_if, bol_b, v_andV, v_orV, v_notV, v_chain, v_lst, v_tup, szR_0, szR_1, szR_2, szR_3, szR_4, szR_5, szR_6, szR_7, szR_8, szR_9, szR_10, szR_11, szR_12, szR_13, szR_14, v_L, v_mu, v_Q, v_P0, iOf_i, v_P, v_sl, v_meth, v_par, v_ifS, v_set, v_setOw, v_ret, v_drop, v_for, v_lam, oCatL_le, oCatQ_le, oAdd_l, oAdd_t, oMul_l2, oMul_l3, oMul_l4, oMul_l5, Nat.reduceLeDiff, oItems_l, oItems_t, oItems_s, oItemsQ_i, oSl_l, oSl_t, oSl_sc, oTupOf_i, oLstOf_i, oSum_i, oAll_i, oAny_i, oMod_p, oDiv_p, oMul_L, oMul_R, oPow_6, oPow_12, oPow_18, oPow_20, oPow_36, oInt_i, oInt_b, oAbs_i, oLen_l, oLen_t, oLenQ_i, oIx_mu, at_0, at_1, at_2, at_3, at_4, at_5, ix5_0, ix5_1, ix5_2, ix5_3, ix5_4, Int.reduceLT, Int.reduceNeg, Int.reduceAdd, Int.reduceSub, Int.reduceMul, oAdd_i, oSub_i, oNeg_i, oLt_i, oLe_i, oGt_i, oGe_i, oMin_i, oMax_i, oEq_i, oNe_i, oEq_s, oNe_s, oIxQ_i, oIx_l, oIx_t, asB_b, asQ_l, asQ_t, v_var, var_fz, v_app, app_ow, v_ext, ext_ow, v_frzE, frs_ow, frs_fz, v_own, own_fl, own_ft, own_ow, own_sh, lp_nx, lp_ct, lp_bk, lp_rt, lp_exc, lp_bad, lp_ite, ag_some, ag_none, fl_nil, fl_cons, g_N, g_nil, g_cons, g_T, o_some, v_asg, v_try, try_exc, try_nx, try_rt, trE_rt, trE_nx, v_thkE, v_thkR, thk_rv, said_nx, said_rt, v_isE, isE_rv, v_wipeR, v_callL, callL_fn, lkL_some, v_store, may_ow, may_fz, may_t, sto_ow, sto_mu, ixO_s, List.getElem?_cons_succ, List.getElem?_cons_zero, List.set_cons_succ, List.set_cons_zero, startE, List.zipWith, List.replicate, List.length_cons, List.length_nil, List.cons_append, List.nil_append, setE, Nat.reduceSub, Nat.reduceAdd, if_true, if_false, ite_true, ite_false, Bool.not_true, Bool.not_false, Bool.false_eq_true,
         e1, e2, n1, n2, n3, n4, n5, word_mark, word_places]
  rw [oEqQ_refl (by kernel_rfl)]
  rfl
theorem law_turn {s : S} (hs : Hand s) (x0 x2 x3 : Sl) : ∃ y3 s', b_law_1 [x0, .fz (muD 0), x2, x3] s = .nx [x0, .fz (muD 0), x2, y3] s' ∧ Hand s' := by
  obtain ⟨z, s1, e1, h, g, hs1⟩ := e_law_marks hs
  obtain ⟨s2, e2, hs2⟩ := e_mark_right hs1 h g
  obtain ⟨s3, e3, hs3⟩ := e_refused_right hs2 h g
  refine ⟨.fz (.str z), s3, ?_, hs3⟩
  unfold b_law_1
  simp (config := {implicitDefEqProofs := false}) only [b_ok, b_exc, b_bad, b_ite, l_some, l_none, of_ok, of_exc, of_bad, of_ite, sq_nx, sq_rt, sq_bk, sq_ct, sq_exc, sq_bad, sq_ite, fn_nx, fn_rt, fn_exc, fn_bad, fn_ite, v_mkF, v_seq, v_next, v_retN, v_brk, v_cont, v_raise, v_frz, v_bin, v_op1, v_c, v_nil, v_cons, v_consO, v_call, v_test, v_not, v_and, v_or, v_if, bol_b, v_andV, v_orV, v_notV, v_chain, v_lst, v_tup, szR_0, szR_1, szR_2, szR_3, szR_4, szR_5, szR_6, szR_7, szR_8, szR_9, szR_10, szR_11, szR_12, szR_13, szR_14, v_L, v_mu, v_Q, v_P0, iOf_i, v_P, v_sl, v_meth, v_par, v_ifS, v_set, v_setOw, v_ret, v_drop, v_for, v_lam, oCatL_le, oCatQ_le, oAdd_l, oAdd_t, oMul_l2, oMul_l3, oMul_l4, oMul_l5, Nat.reduceLeDiff, oItems_l, oItems_t, oItems_s, oItemsQ_i, oSl_l, oSl_t, oSl_sc, oTupOf_i, oLstOf_i, oSum_i, oAll_i, oAny_i, oMod_p, oDiv_p, oMul_L, oMul_R, oPow_6, oPow_12, oPow_18, oPow_20, oPow_36, oInt_i, oInt_b, oAbs_i, oLen_l, oLen_t, oLenQ_i, oIx_mu, at_0, at_1, at_2, at_3, at_4, at_5, ix5_0, ix5_1, ix5_2, ix5_3, ix5_4, Int.reduceLT, Int.reduceNeg, Int.reduceAdd, Int.reduceSub, Int.reduceMul, oAdd_i, oSub_i, oNeg_i, oLt_i, oLe_i, oGt_i, oGe_i, oMin_i, oMax_i, oEq_i, oNe_i, oEq_s, oNe_s, oIxQ_i, oIx_l, oIx_t, asB_b, asQ_l, asQ_t, v_var, var_fz, v_app, app_ow, v_ext, ext_ow, v_frzE, frs_ow, frs_fz, v_own, own_fl, own_ft, own_ow, own_sh, lp_nx, lp_ct, lp_bk, lp_rt, lp_exc, lp_bad, lp_ite, ag_some, ag_none, fl_nil, fl_cons, g_N, g_nil, g_cons, g_T, o_some, v_asg, v_try, try_exc, try_nx, try_rt, trE_rt, trE_nx, v_thkE, v_thkR, thk_rv, said_nx, said_rt, v_isE, isE_rv, v_wipeR, v_callL, callL_fn, lkL_some, v_store, may_ow, may_fz, may_t, sto_ow, sto_mu, ixO_s, List.getElem?_cons_succ, List.getElem?_cons_zero, List.set_cons_succ, List.set_cons_zero, startE, List.zipWith, List.replicate, List.length_cons, List.length_nil, List.cons_append, List.nil_append, setE, Nat.reduceSub, Nat.reduceAdd, if_true, if_false, ite_true, ite_false, Bool.not_true, Bool.not_false, Bool.false_eq_true,
         e1, e2, e3]
def z1 : Str := "010203"
def z2 : Str := "100112"
def z3 : Str := "111111"
def z4 : Str := "300100"
def a1 : Str := "020103"
def a2 : Str := "011012"
def a3 : Str := "211001"
def b1 : Str := "100100"
def b2 : Str := "200100"
def b3 : Str := "300100"
theorem t1 : tnd z1 = [a1] := by
  have e : ((two z1).filter fun x => !(x == z1) && gd x) = [a1] := by kernel_rfl
  unfold tnd
  rw [e]
  exact SetM.ord_self (by simp) (by simp) (fun x => Iff.rfl)
theorem t2 : tnd z2 = [a2, a3] := by
  have e : ((two z2).filter fun x => !(x == z2) && gd x) = [a3, a2] := by kernel_rfl
  unfold tnd
  rw [e]
  refine SetM.ord_self (by decide +kernel) (List.pairwise_cons.mpr ⟨fun b hb => ?_, by simp⟩) (fun x => by simp only [List.mem_cons, List.mem_nil_iff, or_false]; exact or_comm)
  have : b = a3 := by simpa using hb
  rw [this]
  decide +kernel
theorem t3 : tnd z3 = [] := by
  have e : ((two z3).filter fun x => !(x == z3) && gd x) = [] := by kernel_rfl
  unfold tnd
  rw [e]
  exact SetM.ord_self (by simp) (by simp) (fun x => Iff.rfl)
theorem t4 : W z4 [0] = [b1, b2, b3] := by
  have e : (grows z4 [0]).filter gd = [b1, b2, b3] := by kernel_rfl
  unfold W
  rw [e]
  refine SetM.sort_self (List.pairwise_cons.mpr ⟨fun b hb => ?_, List.pairwise_cons.mpr ⟨fun b hb => ?_, by simp⟩⟩)
  · simp only [List.mem_cons, List.mem_nil_iff, or_false] at hb
    rcases hb with rfl | rfl <;> decide +kernel
  · have : b = b3 := by simpa using hb
    rw [this]
    decide +kernel
theorem law_holds : LawMf 63 mf_law := by
  intro ns hl _
  obtain ⟨s0, e0, hs0⟩ := e_hand hl
  unfold mf_law m_law
  have k1 : ∀ s, mf_turned_marks [.str "010203"] s = .ok (.tuple [.str "020103"]) s := fun s => by
    have := (e_turned (z := z1) (by kernel_rfl) (by kernel_rfl) s).1
    rw [t1] at this
    exact this
  have k2 : ∀ s, mf_turned_marks [.str "100112"] s = .ok (.tuple [.str "011012", .str "211001"]) s := fun s => by
    have := (e_turned (z := z2) (by kernel_rfl) (by kernel_rfl) s).1
    rw [t2] at this
    exact this
  have k3 : ∀ s, mf_turned_marks [.str "111111"] s = .ok (.tuple []) s := fun s => by
    have := (e_turned (z := z3) (by kernel_rfl) (by kernel_rfl) s).1
    rw [t3] at this
    exact this
  have k4 : ∀ s, mf_fewest_turns [.str "010100", .str "090100"] s = .ok (.int 2) s := fun s => by
    have := e_turns (z := "010100") (w := "090100") (by kernel_rfl) (by kernel_rfl) (by kernel_rfl) (by kernel_rfl) s
    rw [show tn "010100" "090100" = 2 by kernel_rfl] at this
    exact this
  have k5 : ∀ s, mf_worn [.str "300100", .tuple [.int 0]] s = .ok (.tuple [.str "100100", .str "200100", .str "300100"]) s := fun s => by
    have := (e_worn (z := z4) (ps := [0]) (by kernel_rfl) (by kernel_rfl) (by simp) (by simp) (by simp) s).1
    rw [t4] at this
    exact this
  have m1 : ∀ s, oNe (.tuple [.str "020103"]) (.tuple [.str "020103"]) s = some (.bool false) := fun s => by kernel_rfl
  have m2 : ∀ s, oNe (.tuple [.str "011012", .str "211001"]) (.tuple [.str "011012", .str "211001"]) s = some (.bool false) := fun s => by kernel_rfl
  have m3 : ∀ s, oNe (.tuple []) (.tuple []) s = some (.bool false) := fun s => by kernel_rfl
  have m4 : ∀ s, oNe (.tuple [.str "100100", .str "200100", .str "300100"]) (.tuple [.str "100100", .str "200100", .str "300100"]) s = some (.bool false) := fun s => by kernel_rfl
  have hr : ∀ s, oRng1 (.int 7) s = some ((List.range 7).map fun i : Nat => .int (0 + (i : Int))) := fun s => rng1_n (n := 7) (by omega)
  obtain ⟨env', s', h1, h2⟩ := for_map (asg := gN 2) (body := b_law_1) (xs := List.range 7) (f := fun i : Nat => .int (0 + (i : Int)))
    (fun _ env s => Hand s ∧ ∃ x0 x2 x3, env = [x0, .fz (muD 0), x2, x3]) (env := [.fz (scOf ns), .fz (muD 0), .un, .un]) (s := s0) ⟨hs0, _, _, _, rfl⟩ (fun i x env s _ hI => by
      obtain ⟨hs, x0, x2, x3, rfl⟩ := hI
      obtain ⟨y3, s', h1, h2⟩ := law_turn hs x0 (.fz (.int (0 + (x : Int)))) x3
      exact ⟨_, _, _, rfl, h1, h2, _, _, _, rfl⟩)
  obtain ⟨hs', x0, x2, x3, rfl⟩ := h2
  refine ⟨s', ?_⟩
  simp (config := {implicitDefEqProofs := false}) only [b_ok, b_exc, b_bad, b_ite, l_some, l_none, of_ok, of_exc, of_bad, of_ite, sq_nx, sq_rt, sq_bk, sq_ct, sq_exc, sq_bad, sq_ite, fn_nx, fn_rt, fn_exc, fn_bad, fn_ite, v_mkF, v_seq, v_next, v_retN, v_brk, v_cont, v_raise, v_frz, v_bin, v_op1, v_c, v_nil, v_cons, v_consO, v_call, v_test, v_not, v_and, v_or, v_if, bol_b, v_andV, v_orV, v_notV, v_chain, v_lst, v_tup, szR_0, szR_1, szR_2, szR_3, szR_4, szR_5, szR_6, szR_7, szR_8, szR_9, szR_10, szR_11, szR_12, szR_13, szR_14, v_L, v_mu, v_Q, v_P0, iOf_i, v_P, v_sl, v_meth, v_par, v_ifS, v_set, v_setOw, v_ret, v_drop, v_for, v_lam, oCatL_le, oCatQ_le, oAdd_l, oAdd_t, oMul_l2, oMul_l3, oMul_l4, oMul_l5, Nat.reduceLeDiff, oItems_l, oItems_t, oItems_s, oItemsQ_i, oSl_l, oSl_t, oSl_sc, oTupOf_i, oLstOf_i, oSum_i, oAll_i, oAny_i, oMod_p, oDiv_p, oMul_L, oMul_R, oPow_6, oPow_12, oPow_18, oPow_20, oPow_36, oInt_i, oInt_b, oAbs_i, oLen_l, oLen_t, oLenQ_i, oIx_mu, at_0, at_1, at_2, at_3, at_4, at_5, ix5_0, ix5_1, ix5_2, ix5_3, ix5_4, Int.reduceLT, Int.reduceNeg, Int.reduceAdd, Int.reduceSub, Int.reduceMul, oAdd_i, oSub_i, oNeg_i, oLt_i, oLe_i, oGt_i, oGe_i, oMin_i, oMax_i, oEq_i, oNe_i, oEq_s, oNe_s, oIxQ_i, oIx_l, oIx_t, asB_b, asQ_l, asQ_t, v_var, var_fz, v_app, app_ow, v_ext, ext_ow, v_frzE, frs_ow, frs_fz, v_own, own_fl, own_ft, own_ow, own_sh, lp_nx, lp_ct, lp_bk, lp_rt, lp_exc, lp_bad, lp_ite, ag_some, ag_none, fl_nil, fl_cons, g_N, g_nil, g_cons, g_T, o_some, v_asg, v_try, try_exc, try_nx, try_rt, trE_rt, trE_nx, v_thkE, v_thkR, thk_rv, said_nx, said_rt, v_isE, isE_rv, v_wipeR, v_callL, callL_fn, lkL_some, v_store, may_ow, may_fz, may_t, sto_ow, sto_mu, ixO_s, List.getElem?_cons_succ, List.getElem?_cons_zero, List.set_cons_succ, List.set_cons_zero, startE, List.zipWith, List.replicate, List.length_cons, List.length_nil, List.cons_append, List.nil_append, setE, Nat.reduceSub, Nat.reduceAdd, if_true, if_false, ite_true, ite_false, Bool.not_true, Bool.not_false, Bool.false_eq_true,
         e0, k1, k2, k3, k4, k5, m1, m2, m3, m4, beq_self_eq_true, hr, h1]
end K76

open PySem PySem.W PyProof.Rows in
set_option maxHeartbeats 0 in
theorem PySem.Challenge.cw_postshire_k76_whole_marks_turned_and_wor_holds : PySem.Challenge.rw_postshire_k76_whole_marks_turned_and_wor.Holds := by
  w_on; o_law; k_head; (case hw => w_witness2)
  k_fill
  first
    | refine Dn.walk_law (l := PySem.Challenge.rw_postshire_k76_whole_marks_turned_and_wor) (n := 63) (k := 9) (x := "script") rfl (by decide) rfl ⟨rfl, by decide, by decide⟩ (fun w h Y => PySem.W.km_in_of Y) ?F
    | refine Dn.walk_law (l := PySem.Challenge.rw_postshire_k76_whole_marks_turned_and_wor) (n := 63) (k := 9) (x := "script") rfl (by decide) rfl ⟨rfl, by decide, by decide⟩ (fun w h Y => PySem.W.kIn_of Y) ?F
  case F =>
    intro w mg mb fa s₀ s₁ G Y KX hmg
    refine' K76.fin G KX hmg ?n_isinstance ?n_int ?n_bool ?n_str ?n_len ?n_all ?n_abs ?n_min ?n_zip ?n_ValueError ?n_tuple ?n_sorted ?n_set ?n_sum ?n_range ?c_LENGTHS ?kl_LENGTHS ?kv_LENGTHS ?c_YEARS ?c_WHEEL ?c_MOST_WORN ?g_PostFault ?s_PostFault ?t_PostFault ?h_PostFault ?g_BadMark ?s_BadMark ?t_BadMark ?h_BadMark ?g_BadPlaces ?s_BadPlaces ?t_BadPlaces ?h_BadPlaces ?g_NoNumber ?s_NoNumber ?t_NoNumber ?h_NoNumber ?xn ?xt ?e_BadMark ?k_BadMark ?xg_BadMark ?xk_BadMark ?xa_BadMark ?xm_BadMark ?m_BadMark ?q_BadMark_BadMark ?q_BadMark_BadPlaces ?q_BadMark_ValueError ?e_BadPlaces ?k_BadPlaces ?xg_BadPlaces ?xk_BadPlaces ?xa_BadPlaces ?xm_BadPlaces ?m_BadPlaces ?q_BadPlaces_BadMark ?q_BadPlaces_BadPlaces ?q_BadPlaces_ValueError ?e_NoNumber ?k_NoNumber ?xg_NoNumber ?xk_NoNumber ?xa_NoNumber ?xm_NoNumber ?m_NoNumber ?q_NoNumber_BadMark ?q_NoNumber_BadPlaces ?q_NoNumber_ValueError ?g_is_integer ?l_is_integer ?o_is_integer ?k_is_integer ?g_is_within ?l_is_within ?o_is_within ?k_is_within ?g_are_below ?l_are_below ?o_are_below ?k_are_below ?g_is_row ?l_is_row ?o_is_row ?k_is_row ?g_are_digits ?l_are_digits ?o_are_digits ?k_are_digits ?g_month_length ?l_month_length ?o_month_length ?k_month_length ?g_parts_of ?l_parts_of ?o_parts_of ?k_parts_of ?g_are_mark ?l_are_mark ?o_are_mark ?k_are_mark ?g_is_mark ?l_is_mark ?o_is_mark ?k_is_mark ?g_check_mark ?l_check_mark ?o_check_mark ?k_check_mark ?g_year_days ?l_year_days ?o_year_days ?k_year_days ?g_mark_of ?l_mark_of ?o_mark_of ?k_mark_of ?g_turned_marks ?l_turned_marks ?o_turned_marks ?k_turned_marks ?g_steps_between ?l_steps_between ?o_steps_between ?k_steps_between ?g_fewest_turns ?l_fewest_turns ?o_fewest_turns ?k_fewest_turns ?g_worn ?l_worn ?o_worn ?k_worn ?g__law_hand ?l__law_hand ?o__law_hand ?k__law_hand ?g__law_draw ?l__law_draw ?o__law_draw ?k__law_draw ?g__law_any ?l__law_any ?o__law_any ?k__law_any ?g__law_is_mark ?l__law_is_mark ?o__law_is_mark ?k__law_is_mark ?g__law_marks ?l__law_marks ?o__law_marks ?k__law_marks ?g__law_turned ?l__law_turned ?o__law_turned ?k__law_turned ?g__law_steps ?l__law_steps ?o__law_steps ?k__law_steps ?g__law_worn ?l__law_worn ?o__law_worn ?k__law_worn ?g__law_mark_right ?l__law_mark_right ?o__law_mark_right ?k__law_mark_right ?g__law_word ?l__law_word ?o__law_word ?k__law_word ?g__law_refused_right ?l__law_refused_right ?o__law_refused_right ?k__law_refused_right ?g_law ?l_law ?o_law ?k_law ?tr__law_refused_right ?tl__law_refused_right ?tv__law_refused_right ?tn__law_refused_right K76.law_holds
    (case n_isinstance => k_is)
    (case n_int => k_is)
    (case n_bool => k_is)
    (case n_str => k_is)
    (case n_len => k_is)
    (case n_all => k_is)
    (case n_abs => k_is)
    (case n_min => k_is)
    (case n_zip => k_is)
    (case n_ValueError => k_is)
    (case n_tuple => k_is)
    (case n_sorted => k_is)
    (case n_set => k_is)
    (case n_sum => k_is)
    (case n_range => k_is)
    (case c_LENGTHS => k_is)
    (case kl_LENGTHS => k_is)
    (case kv_LENGTHS => exact .cons ⟨_, rfl⟩ (.cons ⟨_, rfl⟩ (.cons ⟨_, rfl⟩ (.cons ⟨_, rfl⟩ (.cons ⟨_, rfl⟩ (.cons ⟨_, rfl⟩ (.cons ⟨_, rfl⟩ (.cons ⟨_, rfl⟩ (.cons ⟨_, rfl⟩ (.cons ⟨_, rfl⟩ (.cons ⟨_, rfl⟩ (.cons ⟨_, rfl⟩ (.nil)))))))))))))
    (case c_YEARS => k_is)
    (case c_WHEEL => k_is)
    (case c_MOST_WORN => k_is)
    (case g_PostFault => k_is)
    (case s_PostFault => k_is)
    (case t_PostFault => k_is)
    (case h_PostFault => k_is)
    (case g_BadMark => k_is)
    (case s_BadMark => k_is)
    (case t_BadMark => k_is)
    (case h_BadMark => k_is)
    (case g_BadPlaces => k_is)
    (case s_BadPlaces => k_is)
    (case t_BadPlaces => k_is)
    (case h_BadPlaces => k_is)
    (case g_NoNumber => k_is)
    (case s_NoNumber => k_is)
    (case t_NoNumber => k_is)
    (case h_NoNumber => k_is)
    (case xn => k_is)
    (case xt => k_is)
    (case e_BadMark => first | kernel_rfl | rfl)
    (case k_BadMark => k_is)
    (case xg_BadMark => k_is)
    (case xk_BadMark => k_is)
    (case xa_BadMark => k_is)
    (case xm_BadMark => k_is)
    (case m_BadMark => k_is)
    (case q_BadMark_BadMark => first | kernel_rfl | rfl)
    (case q_BadMark_BadPlaces => first | kernel_rfl | rfl)
    (case q_BadMark_ValueError => first | kernel_rfl | rfl)
    (case e_BadPlaces => first | kernel_rfl | rfl)
    (case k_BadPlaces => k_is)
    (case xg_BadPlaces => k_is)
    (case xk_BadPlaces => k_is)
    (case xa_BadPlaces => k_is)
    (case xm_BadPlaces => k_is)
    (case m_BadPlaces => k_is)
    (case q_BadPlaces_BadMark => first | kernel_rfl | rfl)
    (case q_BadPlaces_BadPlaces => first | kernel_rfl | rfl)
    (case q_BadPlaces_ValueError => first | kernel_rfl | rfl)
    (case e_NoNumber => first | kernel_rfl | rfl)
    (case k_NoNumber => k_is)
    (case xg_NoNumber => k_is)
    (case xk_NoNumber => k_is)
    (case xa_NoNumber => k_is)
    (case xm_NoNumber => k_is)
    (case m_NoNumber => k_is)
    (case q_NoNumber_BadMark => first | kernel_rfl | rfl)
    (case q_NoNumber_BadPlaces => first | kernel_rfl | rfl)
    (case q_NoNumber_ValueError => first | kernel_rfl | rfl)
    (case g_is_integer => k_is)
    (case l_is_integer => k_is)
    (case o_is_integer => k_is)
    (case k_is_integer => k_is)
    (case g_is_within => k_is)
    (case l_is_within => k_is)
    (case o_is_within => k_is)
    (case k_is_within => k_is)
    (case g_are_below => k_is)
    (case l_are_below => k_is)
    (case o_are_below => k_is)
    (case k_are_below => k_is)
    (case g_is_row => k_is)
    (case l_is_row => k_is)
    (case o_is_row => k_is)
    (case k_is_row => k_is)
    (case g_are_digits => k_is)
    (case l_are_digits => k_is)
    (case o_are_digits => k_is)
    (case k_are_digits => k_is)
    (case g_month_length => k_is)
    (case l_month_length => k_is)
    (case o_month_length => k_is)
    (case k_month_length => k_is)
    (case g_parts_of => k_is)
    (case l_parts_of => k_is)
    (case o_parts_of => k_is)
    (case k_parts_of => k_is)
    (case g_are_mark => k_is)
    (case l_are_mark => k_is)
    (case o_are_mark => k_is)
    (case k_are_mark => k_is)
    (case g_is_mark => k_is)
    (case l_is_mark => k_is)
    (case o_is_mark => k_is)
    (case k_is_mark => k_is)
    (case g_check_mark => k_is)
    (case l_check_mark => k_is)
    (case o_check_mark => k_is)
    (case k_check_mark => k_is)
    (case g_year_days => k_is)
    (case l_year_days => k_is)
    (case o_year_days => k_is)
    (case k_year_days => k_is)
    (case g_mark_of => k_is)
    (case l_mark_of => k_is)
    (case o_mark_of => k_is)
    (case k_mark_of => k_is)
    (case g_turned_marks => k_is)
    (case l_turned_marks => k_is)
    (case o_turned_marks => k_is)
    (case k_turned_marks => k_is)
    (case g_steps_between => k_is)
    (case l_steps_between => k_is)
    (case o_steps_between => k_is)
    (case k_steps_between => k_is)
    (case g_fewest_turns => k_is)
    (case l_fewest_turns => k_is)
    (case o_fewest_turns => k_is)
    (case k_fewest_turns => k_is)
    (case g_worn => k_is)
    (case l_worn => k_is)
    (case o_worn => k_is)
    (case k_worn => k_is)
    (case g__law_hand => k_is)
    (case l__law_hand => k_is)
    (case o__law_hand => k_is)
    (case k__law_hand => k_is)
    (case g__law_draw => k_is)
    (case l__law_draw => k_is)
    (case o__law_draw => k_is)
    (case k__law_draw => k_is)
    (case g__law_any => k_is)
    (case l__law_any => k_is)
    (case o__law_any => k_is)
    (case k__law_any => k_is)
    (case g__law_is_mark => k_is)
    (case l__law_is_mark => k_is)
    (case o__law_is_mark => k_is)
    (case k__law_is_mark => k_is)
    (case g__law_marks => k_is)
    (case l__law_marks => k_is)
    (case o__law_marks => k_is)
    (case k__law_marks => k_is)
    (case g__law_turned => k_is)
    (case l__law_turned => k_is)
    (case o__law_turned => k_is)
    (case k__law_turned => k_is)
    (case g__law_steps => k_is)
    (case l__law_steps => k_is)
    (case o__law_steps => k_is)
    (case k__law_steps => k_is)
    (case g__law_worn => k_is)
    (case l__law_worn => k_is)
    (case o__law_worn => k_is)
    (case k__law_worn => k_is)
    (case g__law_mark_right => k_is)
    (case l__law_mark_right => k_is)
    (case o__law_mark_right => k_is)
    (case k__law_mark_right => k_is)
    (case g__law_word => k_is)
    (case l__law_word => k_is)
    (case o__law_word => k_is)
    (case k__law_word => k_is)
    (case g__law_refused_right => k_is)
    (case l__law_refused_right => k_is)
    (case o__law_refused_right => k_is)
    (case k__law_refused_right => k_is)
    (case g_law => k_is)
    (case l_law => k_is)
    (case o_law => k_is)
    (case k_law => k_is)
    (case tr__law_refused_right => first | rfl | k_is)
    (case tl__law_refused_right => k_is)
    (case tv__law_refused_right => rfl)
    (case tn__law_refused_right => first | kernel_rfl | rfl)
