import PyProof.Rows.All
import Wide.All
import OpenK.AllK
import Wide.FinOn
import HandS.ForMost
import HandS.ForExc
import HandS.IsInst
import HandS.Flow
import HandS.Style
import HandS.Deep
import HandS.Defaults
import HandS.CallSlots
import HandS.Zip
import KE.GoesMore
import KE.GoesEnum
import HandS.TupAny
import HandS.Small
import HandS.WordsExc
import HandS.ExcOwn
import HandS.ExcIs
import HandS.FStr
import HandS.More
import PyProof.AutoSeq1
import PyProof.Rows.RegStrFacts
import HandS.Iter
import HandS.SortInts
import PySem.Challenge.RW_manypanes_k25_whole_layouts_tile_the_are
set_option Elab.async false
set_option linter.all false
set_option maxRecDepth 100000
set_option maxHeartbeats 4000000
/-! ML1: a functional reading of Python over a store of our own, core -/
namespace ML
open PySem L2

/-- a question that computation does not open -/
noncomputable def ck (p : Prop) : Bool := @decide p (Classical.propDecidable p)
@[simp] theorem ck_iff {p : Prop} : (ck p = true) = p := by
  unfold ck
  rw [@decide_eq_true_eq p (Classical.propDecidable p)]
/-- values: data as trees (tuples; lists that are never changed any more), places of the store -/
inductive W where
  | non | bl (b : Bool) | int (i : Int) | str (x : Str) | raw (v : V)
  | tup (ws : List W) | fl (ws : List W) | kl (ws : List W) | loc (l : Nat)
inductive O where
  | dead
  | lst (ws : List W)
  | ins (c : Nat) (fs : List (Option W))
  | dct (kvs : List (Key × W))
abbrev En := List (Option W)
abbrev Sto := List O
inductive R (α : Type) where
  | ok (a : α) (s : Sto)
  | ex (c : Nat) (s : Sto)
  | no
def R.bind {α β : Type} (r : R α) (f : α → Sto → R β) : R β := match r with
  | .ok a s => f a s
  | .ex c s => .ex c s
  | .no => .no
@[simp] theorem R.bind_ok {α β : Type} (a : α) (s : Sto) (f : α → Sto → R β) : (R.ok a s).bind f = f a s := rfl
@[simp] theorem R.bind_ex {α β : Type} (c : Nat) (s : Sto) (f : α → Sto → R β) : (R.ex c s).bind f = .ex c s := rfl
@[simp] theorem R.bind_no {α β : Type} (f : α → Sto → R β) : (R.no : R α).bind f = .no := rfl
@[simp] theorem R.bind_ite {α β : Type} (c : Prop) [Decidable c] (a b : R α) (f : α → Sto → R β) : (if c then a else b).bind f = if c then a.bind f else b.bind f := by split <;> rfl
inductive SR where
  | nx (e : En) (s : Sto) | rt (w : W) (s : Sto) | bk (e : En) (s : Sto) | ct (e : En) (s : Sto) | ex (c : Nat) (s : Sto) | no
/-- a bool's use -/
def W.cb {α : Type} (x : W) (f : Bool → R α) : R α := match x with
  | .bl k => f k
  | _ => .no
@[simp] theorem W.cb_bl {α : Type} (k : Bool) (f : Bool → R α) : (W.bl k).cb f = f k := rfl
/-- behind a statement -/
def SR.go (r : SR) (k : En → Sto → SR) : SR := match r with
  | .nx e s => k e s
  | .rt w s => .rt w s
  | .bk e s => .bk e s
  | .ct e s => .ct e s
  | .ex c s => .ex c s
  | .no => .no
@[simp] theorem SR.go_nx (e : En) (s : Sto) (k : En → Sto → SR) : (SR.nx e s).go k = k e s := rfl
@[simp] theorem SR.go_rt (e : W) (s : Sto) (k : En → Sto → SR) : (SR.rt e s).go k = .rt e s := rfl
@[simp] theorem SR.go_bk (e : En) (s : Sto) (k : En → Sto → SR) : (SR.bk e s).go k = .bk e s := rfl
@[simp] theorem SR.go_ct (e : En) (s : Sto) (k : En → Sto → SR) : (SR.ct e s).go k = .ct e s := rfl
@[simp] theorem SR.go_ex (e : Nat) (s : Sto) (k : En → Sto → SR) : (SR.ex e s).go k = .ex e s := rfl
@[simp] theorem SR.go_no (k : En → Sto → SR) : SR.no.go k = .no := rfl
@[simp] theorem SR.go_ite (c : Prop) [Decidable c] (a b : SR) (k : En → Sto → SR) : (if c then a else b).go k = if c then a.go k else b.go k := by split <;> rfl
/-- behind a loop's body -/
def SR.lp (r : SR) (k : En → Sto → SR) : SR := match r with
  | .nx e s => k e s
  | .ct e s => k e s
  | .bk e s => .nx e s
  | .rt w s => .rt w s
  | .ex c s => .ex c s
  | .no => .no
@[simp] theorem SR.lp_nx (e : En) (s : Sto) (k : En → Sto → SR) : (SR.nx e s).lp k = k e s := rfl
@[simp] theorem SR.lp_rt (e : W) (s : Sto) (k : En → Sto → SR) : (SR.rt e s).lp k = .rt e s := rfl
@[simp] theorem SR.lp_bk (e : En) (s : Sto) (k : En → Sto → SR) : (SR.bk e s).lp k = .nx e s := rfl
@[simp] theorem SR.lp_ct (e : En) (s : Sto) (k : En → Sto → SR) : (SR.ct e s).lp k = k e s := rfl
@[simp] theorem SR.lp_ex (e : Nat) (s : Sto) (k : En → Sto → SR) : (SR.ex e s).lp k = .ex e s := rfl
@[simp] theorem SR.lp_no (k : En → Sto → SR) : SR.no.lp k = .no := rfl
@[simp] theorem SR.lp_ite (c : Prop) [Decidable c] (a b : SR) (k : En → Sto → SR) : (if c then a else b).lp k = if c then a.lp k else b.lp k := by split <;> rfl
abbrev Ex := En → Sto → R W
abbrev Bx := En → Sto → R Bool
abbrev Ax := En → Sto → R (List W)
abbrev Sx := En → Sto → SR
/-- what the text has: the written part, the classes (place, names of the fields), the classes of errors -/
structure MC where
  K : PySem.W.Frag
  cls : List (Addr × List Str)
  exn : List Addr

/-- where the places stand; what else may be written, by one alone (a list that is being made) -/
structure Pl where
  pl : List Addr
  hd : List Addr
def Pl.add (ρ : Pl) (p : Addr) : Pl := ⟨ρ.pl ++ [p], ρ.hd⟩
def Pl.hide (ρ : Pl) (p : Addr) : Pl := ⟨ρ.pl, p :: ρ.hd⟩
/-- nobody writes at a any more -/
def NL (ρ : Pl) (st : Sto) (a : Addr) : Prop := (∀ l : Nat, ρ.pl[l]? = some a → st[l]? = some O.dead) ∧ a ∉ ρ.hd
/-- a list that never changes any more -/
def Fz (K : PySem.W.Frag) (H : Hp) (ρ : Pl) (st : Sto) (a : Addr) (vs : List V) : Prop :=
  (H a = some (.lst vs) ∧ NL ρ st a) ∨ (∃ o, H a = some (.frz o (.lst vs))) ∨ SqL K (fun _ => none) a vs
mutual
inductive Rep (K : PySem.W.Frag) (H : Hp) (ρ : Pl) (st : Sto) : V → W → Prop
  | non : Rep K H ρ st .non .non
  | bl (b : Bool) : Rep K H ρ st (.bl b) (.bl b)
  | int (i : Int) : Rep K H ρ st (.int i) (.int i)
  | str (x : Str) : Rep K H ρ st (.str x) (.str x)
  | raw (v : V) : Rep K H ρ st v (.raw v)
  | tup {a : Addr} {vs : List V} {ws : List W} : SqT K H a vs → RepL K H ρ st vs ws → Rep K H ρ st (.ref a) (.tup ws)
  | fl {a : Addr} {vs : List V} {ws : List W} : H a = some (.lst vs) → NL ρ st a → RepL K H ρ st vs ws → Rep K H ρ st (.ref a) (.fl ws)
  | kl {a : Addr} {vs : List V} {ws : List W} : Fz K H ρ st a vs → RepL K H ρ st vs ws → Rep K H ρ st (.ref a) (.kl ws)
  | loc {a : Addr} {l : Nat} : ρ.pl[l]? = some a → Rep K H ρ st (.ref a) (.loc l)
inductive RepL (K : PySem.W.Frag) (H : Hp) (ρ : Pl) (st : Sto) : List V → List W → Prop
  | nil : RepL K H ρ st [] []
  | cons {v : V} {vs : List V} {w : W} {ws : List W} : Rep K H ρ st v w → RepL K H ρ st vs ws → RepL K H ρ st (v :: vs) (w :: ws)
end

/-- how the state goes on -/
structure Evo (H : Hp) (ρ : Pl) (st : Sto) (H' : Hp) (ρ' : Pl) (st' : Sto) : Prop where
  pre : ∀ (l : Nat) (a : Addr), ρ.pl[l]? = some a → ρ'.pl[l]? = some a
  dd : ∀ l : Nat, st[l]? = some O.dead → st'[l]? = some O.dead
  keep : ∀ (a : Addr) (o : HO), H a = some o → (∀ l : Nat, ρ.pl[l]? = some a → st[l]? = some O.dead) → H' a = some o
  new : ∀ (l : Nat) (a : Addr), ρ'.pl[l]? = some a → ρ.pl[l]? = some a ∨ H a = none
  dom : ∀ a : Addr, H' a = none → H a = none
  newh : ∀ a ∈ ρ'.hd, a ∈ ρ.hd ∨ H a = none
  oldh : ∀ a ∈ ρ.hd, a ∈ ρ'.hd

theorem Evo.refl (H : Hp) (ρ : Pl) (st : Sto) : Evo H ρ st H ρ st :=
  ⟨fun _ _ h => h, fun _ h => h, fun _ _ h _ => h, fun _ _ h => .inl h, fun _ h => h, fun _ h => .inl h, fun _ h => h⟩
theorem Evo.trans {H H1 H2 : Hp} {ρ ρ1 ρ2 : Pl} {st st1 st2 : Sto} (a : Evo H ρ st H1 ρ1 st1) (b : Evo H1 ρ1 st1 H2 ρ2 st2) : Evo H ρ st H2 ρ2 st2 where
  pre := fun l x h => b.pre l x (a.pre l x h)
  dd := fun l h => b.dd l (a.dd l h)
  keep := fun x o h nl => b.keep x o (a.keep x o h nl) fun l q => by
    rcases a.new l x q with q | q
    · exact a.dd l (nl l q)
    · rw [h] at q; cases q
  new := fun l x q => by
    rcases b.new l x q with q | q
    · exact a.new l x q
    · exact .inr (a.dom x q)
  dom := fun x q => a.dom x (b.dom x q)
  newh := fun x q => by
    rcases b.newh x q with q | q
    · exact a.newh x q
    · exact .inr (a.dom x q)
  oldh := fun x q => b.oldh x (a.oldh x q)
theorem NL.evo {H H' : Hp} {ρ ρ' : Pl} {st st' : Sto} (E : Evo H ρ st H' ρ' st') {a : Addr} {o : HO} (h : H a = some o) (n : NL ρ st a) : NL ρ' st' a := by
  refine ⟨fun l q => ?_, fun q => ?_⟩
  · rcases E.new l a q with q | q
    · exact E.dd l (n.1 l q)
    · rw [h] at q; cases q
  · rcases E.newh a q with q | q
    · exact n.2 q
    · rw [h] at q; cases q

def isMutO : HO → Prop
  | .lst _ => True
  | .ins _ _ _ => True
  | .dK _ => True
  | _ => False
/-- places that live hold what can be changed -/
def Liv (H : Hp) (ρ : Pl) (st : Sto) : Prop := ∀ (l : Nat) (a : Addr), ρ.pl[l]? = some a → st[l]? = some O.dead ∨ ∃ o, H a = some o ∧ isMutO o
theorem Liv.not {H : Hp} {ρ : Pl} {st : Sto} (L : Liv H ρ st) {a : Addr} {o : HO} (h : H a = some o) (n : ¬ isMutO o) : ∀ l : Nat, ρ.pl[l]? = some a → st[l]? = some O.dead := fun l q => by
  rcases L l a q with z | ⟨u, e, m⟩
  · exact z
  · rw [h] at e; cases e; exact absurd m n
section
variable {K : PySem.W.Frag} {H H' : Hp} {ρ ρ' : Pl} {st st' : Sto}
theorem SqT.evo (E : Evo H ρ st H' ρ' st') (L : Liv H ρ st) {a : Addr} {vs : List V} (h : SqT K H a vs) : SqT K H' a vs := by
  rcases h with (h | ⟨o, h⟩) | h
  · exact .inl (.inl (E.keep a _ h (L.not h id)))
  · exact .inl (.inr ⟨o, E.keep a _ h (L.not h id)⟩)
  · exact .inr h
theorem Fz.evo (E : Evo H ρ st H' ρ' st') (L : Liv H ρ st) {a : Addr} {vs : List V} (h : Fz K H ρ st a vs) : Fz K H' ρ' st' a vs := by
  rcases h with ⟨h, n⟩ | ⟨o, h⟩ | h
  · exact .inl ⟨E.keep a _ h n.1, n.evo E h⟩
  · exact .inr (.inl ⟨o, E.keep a _ h (L.not h id)⟩)
  · exact .inr (.inr h)
theorem Fz.seq {a : Addr} {vs : List V} (h : Fz K H ρ st a vs) : SqL K H a vs := by
  rcases h with ⟨h, _⟩ | ⟨o, h⟩ | h
  · exact .inl (.inl h)
  · exact .inl (.inr ⟨o, h⟩)
  · rcases h with (h | ⟨o, h⟩) | h
    · cases h
    · cases h
    · exact .inr h
mutual
theorem Rep.evo (E : Evo H ρ st H' ρ' st') (L : Liv H ρ st) : ∀ {v : V} {w : W}, Rep K H ρ st v w → Rep K H' ρ' st' v w
  | _, _, .non => .non
  | _, _, .bl b => .bl b
  | _, _, .int i => .int i
  | _, _, .str x => .str x
  | _, _, .raw v => .raw v
  | _, _, .tup h r => .tup (SqT.evo E L h) (RepL.evo E L r)
  | _, _, .fl h n r => .fl (E.keep _ _ h n.1) (n.evo E h) (RepL.evo E L r)
  | _, _, .kl h r => .kl (Fz.evo E L h) (RepL.evo E L r)
  | _, _, .loc h => .loc (E.pre _ _ h)
theorem RepL.evo (E : Evo H ρ st H' ρ' st') (L : Liv H ρ st) : ∀ {vs : List V} {ws : List W}, RepL K H ρ st vs ws → RepL K H' ρ' st' vs ws
  | _, _, .nil => .nil
  | _, _, .cons h r => .cons (Rep.evo E L h) (RepL.evo E L r)
end
end
section
variable {K : PySem.W.Frag} {H : Hp} {ρ : Pl} {st : Sto}
theorem RepL.length : ∀ {vs : List V} {ws : List W}, RepL K H ρ st vs ws → vs.length = ws.length
  | _, _, .nil => rfl
  | _, _, .cons _ r => congrArg (· + 1) (RepL.length r)
theorem RepL.get : ∀ {vs : List V} {ws : List W} {i : Nat} {w : W}, RepL K H ρ st vs ws → ws[i]? = some w → ∃ v, vs[i]? = some v ∧ Rep K H ρ st v w
  | _, _, _, _, .nil, e => by simp at e
  | _, _, 0, _, .cons h _, e => by simp at e; subst e; exact ⟨_, rfl, h⟩
  | _, _, i + 1, w, .cons _ r, e => by
    obtain ⟨v, h1, h2⟩ := RepL.get (i := i) (w := w) r (by simpa using e)
    exact ⟨v, by simpa using h1, h2⟩
theorem RepL.getV : ∀ {vs : List V} {ws : List W} {i : Nat} {v : V}, RepL K H ρ st vs ws → vs[i]? = some v → ∃ w, ws[i]? = some w ∧ Rep K H ρ st v w
  | _, _, _, _, .nil, e => by simp at e
  | _, _, 0, _, .cons h _, e => by simp at e; subst e; exact ⟨_, rfl, h⟩
  | _, _, i + 1, w, .cons _ r, e => by
    obtain ⟨v, h1, h2⟩ := RepL.getV (i := i) (v := w) r (by simpa using e)
    exact ⟨v, by simpa using h1, h2⟩
theorem RepL.append : ∀ {vs us : List V} {ws xs : List W}, RepL K H ρ st vs ws → RepL K H ρ st us xs → RepL K H ρ st (vs ++ us) (ws ++ xs)
  | _, _, _, _, .nil, s => s
  | _, _, _, _, .cons h r, s => .cons h (RepL.append r s)
theorem RepL.take : ∀ {vs : List V} {ws : List W} (n : Nat), RepL K H ρ st vs ws → RepL K H ρ st (vs.take n) (ws.take n)
  | _, _, 0, _ => by simp; exact .nil
  | _, _, _ + 1, .nil => .nil
  | _, _, n + 1, .cons h r => .cons h (RepL.take n r)
theorem RepL.drop : ∀ {vs : List V} {ws : List W} (n : Nat), RepL K H ρ st vs ws → RepL K H ρ st (vs.drop n) (ws.drop n)
  | _, _, 0, r => r
  | _, _, _ + 1, .nil => .nil
  | _, _, n + 1, .cons _ r => RepL.drop n r
theorem RepL.set {v : V} {w : W} (h : Rep K H ρ st v w) : ∀ {vs : List V} {ws : List W} (i : Nat), RepL K H ρ st vs ws → RepL K H ρ st (vs.set i v) (ws.set i w)
  | _, _, _, .nil => .nil
  | _, _, 0, .cons _ r => .cons h r
  | _, _, i + 1, .cons q r => .cons q (RepL.set h i r)
theorem RepL.eraseIdx : ∀ {vs : List V} {ws : List W} (i : Nat), RepL K H ρ st vs ws → RepL K H ρ st (vs.eraseIdx i) (ws.eraseIdx i)
  | _, _, _, .nil => .nil
  | _, _, 0, .cons _ r => r
  | _, _, i + 1, .cons q r => .cons q (RepL.eraseIdx i r)
theorem RepL.dropLast {vs : List V} {ws : List W} (r : RepL K H ρ st vs ws) : RepL K H ρ st vs.dropLast ws.dropLast := by
  rw [List.dropLast_eq_take, List.dropLast_eq_take, r.length]; exact r.take _
theorem RepL.replicate {v : V} {w : W} (h : Rep K H ρ st v w) : ∀ n : Nat, RepL K H ρ st (List.replicate n v) (List.replicate n w)
  | 0 => .nil
  | n + 1 => .cons h (RepL.replicate h n)
theorem RepL.one {vs : List V} {w : W} (r : RepL K H ρ st vs [w]) : ∃ v, vs = [v] ∧ Rep K H ρ st v w := by
  cases r with | cons h r => cases r; exact ⟨_, rfl, h⟩
theorem RepL.two {vs : List V} {w x : W} (r : RepL K H ρ st vs [w, x]) : ∃ v u, vs = [v, u] ∧ Rep K H ρ st v w ∧ Rep K H ρ st u x := by
  cases r with | cons h r => obtain ⟨u, rfl, q⟩ := r.one; exact ⟨_, _, rfl, h, q⟩
theorem RepL.ints : ∀ {vs : List V} {ns : List Int}, RepL K H ρ st vs (ns.map W.int) → vs = ns.map V.int
  | _, [], h => by cases h; rfl
  | _, n :: ns, h => by
    cases h with
    | cons h r => cases h; rw [RepL.ints r]; rfl
theorem repL_ints (ns : List Int) : RepL K H ρ st (ns.map V.int) (ns.map W.int) := by
  induction ns with
  | nil => exact .nil
  | cons n ns ih => exact .cons (.int n) ih
theorem RepL.bls : ∀ {vs : List V} {ns : List Bool}, RepL K H ρ st vs (ns.map W.bl) → vs = ns.map V.bl
  | _, [], h => by cases h; rfl
  | _, n :: ns, h => by
    cases h with
    | cons h r => cases h; rw [RepL.bls r]; rfl
end

def RepF (C : MC) (H : Hp) (ρ : Pl) (st : Sto) (nm : List Str) (fvs : List (Str × V)) (fs : List (Option W)) : Prop :=
  fs.length = nm.length ∧ (∀ (i : Nat) (f : Str) (w : W), nm[i]? = some f → fs[i]? = some (some w) → ∃ v, fvs.lookup f = some v ∧ Rep C.K H ρ st v w) ∧
  (fvs.map (·.1)).Nodup ∧ ∀ f ∈ fvs.map (·.1), f ∈ nm
def RepK (K : PySem.W.Frag) (H : Hp) (ρ : Pl) (st : Sto) : List (Key × V) → List (Key × W) → Prop
  | [], [] => True
  | (k, v) :: kvs, (j, w) :: kws => k = j ∧ Rep K H ρ st v w ∧ RepK K H ρ st kvs kws
  | _, _ => False
def RepO (C : MC) (H : Hp) (ρ : Pl) (st : Sto) (a : Addr) : O → Prop
  | .dead => ∃ u, H a = some u
  | .lst ws => ∃ vs, H a = some (.lst vs) ∧ RepL C.K H ρ st vs ws
  | .ins c fs => ∃ Cd nm dx fvs, C.cls[c]? = some (Cd, nm) ∧ H a = some (.ins Cd dx fvs) ∧ RepF C H ρ st nm fvs fs
  | .dct kws => ∃ kvs, H a = some (.dK kvs) ∧ RepK C.K H ρ st kvs kws
structure RelS (C : MC) (H : Hp) (ρ : Pl) (st : Sto) : Prop where
  len : ρ.pl.length = st.length
  inj : ∀ (l m : Nat) (a : Addr), ρ.pl[l]? = some a → ρ.pl[m]? = some a → l = m
  obj : ∀ (l : Nat) (a : Addr) (o : O), ρ.pl[l]? = some a → st[l]? = some o → RepO C H ρ st a o
  hid : ∀ a ∈ ρ.hd, (∃ o, H a = some o ∧ isMutO o) ∧ ∀ l : Nat, ρ.pl[l]? ≠ some a
section
variable {C : MC} {H H' : Hp} {ρ ρ' : Pl} {st st' : Sto}
theorem RelS.at (S : RelS C H ρ st) {l : Nat} {a : Addr} (h : ρ.pl[l]? = some a) : ∃ o, st[l]? = some o := by
  have q := (List.getElem?_eq_some_iff.mp h).1
  rw [S.len] at q
  exact ⟨st[l], by simp [q]⟩
theorem RelS.addr (S : RelS C H ρ st) {l : Nat} {o : O} (h : st[l]? = some o) : ∃ a, ρ.pl[l]? = some a ∧ RepO C H ρ st a o := by
  have q := (List.getElem?_eq_some_iff.mp h).1
  rw [← S.len] at q
  exact ⟨ρ.pl[l], by simp [q], S.obj l _ o (by simp [q]) h⟩
theorem RelS.liv (S : RelS C H ρ st) : Liv H ρ st := fun l a h => by
  obtain ⟨o, e⟩ := S.at h
  have q := S.obj l a o h e
  cases o with
  | dead => exact .inl e
  | lst ws => obtain ⟨vs, e, _⟩ := q; exact .inr ⟨_, e, trivial⟩
  | ins c fs => obtain ⟨_, _, _, _, _, e, _⟩ := q; exact .inr ⟨_, e, trivial⟩
  | dct kws => obtain ⟨vs, e, _⟩ := q; exact .inr ⟨_, e, trivial⟩
theorem RelS.has (S : RelS C H ρ st) {l : Nat} {a : Addr} (h : ρ.pl[l]? = some a) : ∃ u, H a = some u := by
  obtain ⟨o, e⟩ := S.at h
  have q := S.obj l a o h e
  cases o with
  | dead => exact q
  | lst ws => obtain ⟨vs, e, _⟩ := q; exact ⟨_, e⟩
  | ins c fs => obtain ⟨_, _, _, _, _, e, _⟩ := q; exact ⟨_, e⟩
  | dct kws => obtain ⟨vs, e, _⟩ := q; exact ⟨_, e⟩
theorem RepF.evo {nm : List Str} {fvs : List (Str × V)} {fs : List (Option W)} (E : Evo H ρ st H' ρ' st') (L : Liv H ρ st) (h : RepF C H ρ st nm fvs fs) : RepF C H' ρ' st' nm fvs fs :=
  ⟨h.1, fun i f w a b => let ⟨v, e, r⟩ := h.2.1 i f w a b; ⟨v, e, r.evo E L⟩, h.2.2⟩
theorem RepK.evo {K : PySem.W.Frag} (E : Evo H ρ st H' ρ' st') (L : Liv H ρ st) : ∀ {kvs : List (Key × V)} {kws : List (Key × W)}, RepK K H ρ st kvs kws → RepK K H' ρ' st' kvs kws
  | [], [], _ => trivial
  | (k, v) :: kvs, (j, w) :: kws, h => ⟨h.1, h.2.1.evo E L, RepK.evo E L h.2.2⟩
  | [], _ :: _, h => h.elim
  | _ :: _, [], h => h.elim
theorem RepO.evo {a : Addr} {o : O} (E : Evo H ρ st H' ρ' st') (L : Liv H ρ st) (e : H' a = H a) (h : RepO C H ρ st a o) : RepO C H' ρ' st' a o := by
  cases o with
  | dead => obtain ⟨u, q⟩ := h; exact ⟨u, e.trans q⟩
  | lst ws => obtain ⟨vs, q, r⟩ := h; exact ⟨vs, e.trans q, r.evo E L⟩
  | ins c fs => obtain ⟨Cd, nm, dx, fvs, q1, q2, r⟩ := h; exact ⟨Cd, nm, dx, fvs, q1, e.trans q2, r.evo E L⟩
  | dct kws => obtain ⟨kvs, q, r⟩ := h; exact ⟨kvs, e.trans q, r.evo E L⟩
/-- a new object that has no place of its own -/
theorem Evo.laid {p : Addr} {o : HO} (hp : H p = none) : Evo H ρ st (upd H p o) ρ st :=
  ⟨fun _ _ h => h, fun _ h => h, fun a u h _ => by rw [upd_ne (ne_of_none h hp)]; exact h, fun _ _ h => .inl h, fun a h => by
    by_cases e : a = p
    · rw [e]; exact hp
    · rw [upd_ne e] at h; exact h, fun _ h => .inl h, fun _ h => h⟩
theorem RelS.fresh (S : RelS C H ρ st) {p : Addr} (h : H p = none) : (∀ l : Nat, ρ.pl[l]? ≠ Option.some p) ∧ p ∉ ρ.hd := by
  refine ⟨fun l q => ?_, fun q => ?_⟩
  · obtain ⟨u, e⟩ := S.has q
    rw [h] at e; cases e
  · obtain ⟨⟨o, e, _⟩, _⟩ := S.hid p q
    rw [h] at e; cases e
theorem RelS.nl (S : RelS C H ρ st) {p : Addr} (h : H p = none) : NL ρ st p := ⟨fun l q => absurd q ((S.fresh h).1 l), (S.fresh h).2⟩
theorem RelS.laid (S : RelS C H ρ st) {p : Addr} {o : HO} (hp : H p = none) : RelS C (upd H p o) ρ st :=
  ⟨S.len, S.inj, fun l a u h e => (S.obj l a u h e).evo (Evo.laid hp) S.liv (upd_ne fun z => (S.fresh hp).1 l (z ▸ h)), fun a h => by
    obtain ⟨⟨o, e, m⟩, q⟩ := S.hid a h
    exact ⟨⟨o, by rw [upd_ne (ne_of_none e hp)]; exact e, m⟩, q⟩⟩
theorem add_at {ρ : Pl} {p : Addr} {l : Nat} {a : Addr} (h : (ρ.add p).pl[l]? = Option.some a) : ρ.pl[l]? = Option.some a ∨ (l = ρ.pl.length ∧ a = p) := by
  have h : (ρ.pl ++ [p])[l]? = Option.some a := h
  rw [List.getElem?_append] at h
  split at h
  · exact .inl h
  · cases q : l - ρ.pl.length with
    | zero => rw [q] at h; simp at h; exact .inr ⟨by omega, h.symm⟩
    | succ k => rw [q] at h; simp at h
theorem add_old {ρ : Pl} {p : Addr} {l : Nat} {a : Addr} (h : ρ.pl[l]? = Option.some a) : (ρ.add p).pl[l]? = Option.some a := by
  show (ρ.pl ++ [p])[l]? = Option.some a
  rw [List.getElem?_append_left (List.getElem?_eq_some_iff.mp h).1]; exact h
theorem add_new {ρ : Pl} {p : Addr} : (ρ.add p).pl[ρ.pl.length]? = Option.some p := by
  show (ρ.pl ++ [p])[ρ.pl.length]? = Option.some p
  simp
/-- a new object with a place -/
theorem Evo.push {p : Addr} {o : HO} {u : O} (hp : H p = none) : Evo H ρ st (upd H p o) (ρ.add p) (st ++ [u]) :=
  ⟨fun l a h => add_old h, fun l h => by rw [List.getElem?_append_left (List.getElem?_eq_some_iff.mp h).1]; exact h,
   fun a u h _ => by rw [upd_ne (ne_of_none h hp)]; exact h,
   fun l a h => by
    rcases add_at h with h | ⟨_, h⟩
    · exact .inl h
    · rw [h]; exact .inr hp,
   fun a h => by
    by_cases e : a = p
    · rw [e]; exact hp
    · rw [upd_ne e] at h; exact h, fun _ h => .inl h, fun _ h => h⟩
theorem RelS.push (S : RelS C H ρ st) {p : Addr} {o : HO} {u : O} (hp : H p = none) (hu : RepO C (upd H p o) (ρ.add p) (st ++ [u]) p u) : RelS C (upd H p o) (ρ.add p) (st ++ [u]) := by
  refine ⟨by show (ρ.pl ++ [p]).length = _; simp [S.len], fun l m a h1 h2 => ?_, fun l a x h e => ?_, fun a h => ?_⟩
  · rcases add_at h1 with h1 | ⟨h1, e1⟩
    · rcases add_at h2 with h2 | ⟨h2, e2⟩
      · exact S.inj l m a h1 h2
      · rw [e2] at h1; exact absurd h1 ((S.fresh hp).1 l)
    · rcases add_at h2 with h2 | ⟨h2, e2⟩
      · rw [e1] at h2; exact absurd h2 ((S.fresh hp).1 m)
      · rw [h1, h2]
  · rcases add_at h with h | ⟨h, ea⟩
    · rw [List.getElem?_append_left (by rw [← S.len]; exact (List.getElem?_eq_some_iff.mp h).1)] at e
      exact (S.obj l a x h e).evo (Evo.push hp) S.liv (upd_ne fun z => (S.fresh hp).1 l (z ▸ h))
    · rw [h, S.len, List.getElem?_append_right (Nat.le_refl _)] at e
      simp at e
      rw [ea, ← e]
      exact hu
  · obtain ⟨⟨o, e, m⟩, q⟩ := S.hid a h
    refine ⟨⟨o, by rw [upd_ne (ne_of_none e hp)]; exact e, m⟩, fun l z => ?_⟩
    rcases add_at z with z | ⟨_, z⟩
    · exact q l z
    · rw [z, hp] at e; cases e
/-- a living place is written -/
theorem Evo.write {l : Nat} {a : Addr} {o : HO} {u x : O} (h : ρ.pl[l]? = Option.some a) (e : st[l]? = Option.some x) (nx : x ≠ .dead) : Evo H ρ st (upd H a o) ρ (st.set l u) :=
  ⟨fun _ _ h => h, fun m q => by
    by_cases z : l = m
    · rw [← z, e] at q; cases q; exact absurd rfl nx
    · rw [List.getElem?_set_ne z]; exact q,
   fun b v q nl => by
    by_cases z : b = a
    · have := nl l (z ▸ h); rw [e] at this; cases this; exact absurd rfl nx
    · rw [upd_ne z]; exact q, fun _ _ h => .inl h, fun b q => by
    by_cases z : b = a
    · rw [z, upd_same] at q; cases q
    · rw [upd_ne z] at q; exact q, fun _ h => .inl h, fun _ h => h⟩
theorem RelS.write (S : RelS C H ρ st) {l : Nat} {a : Addr} {o : HO} {u x : O} (h : ρ.pl[l]? = Option.some a) (e : st[l]? = Option.some x) (nx : x ≠ .dead) (hu : RepO C (upd H a o) ρ (st.set l u) a u) : RelS C (upd H a o) ρ (st.set l u) := by
  refine ⟨by simp [S.len], S.inj, fun m b y q r => ?_, fun b hb => ?_⟩
  · by_cases z : l = m
    · subst z
      rw [List.getElem?_set_self (List.getElem?_eq_some_iff.mp e).1] at r
      cases r
      rw [h] at q; cases q
      exact hu
    · rw [List.getElem?_set_ne z] at r
      exact (S.obj m b y q r).evo (Evo.write h e nx) S.liv (upd_ne fun w => z (S.inj l m a h (w ▸ q)))
  · obtain ⟨⟨o, e, m⟩, q⟩ := S.hid b hb
    exact ⟨⟨o, by rw [upd_ne (fun z => q l (by rw [z]; exact h))]; exact e, m⟩, q⟩
/-- a place is given up -/
theorem Evo.kill {l : Nat} : Evo H ρ st H ρ (st.set l .dead) :=
  ⟨fun _ _ h => h, fun m q => by
    by_cases z : l = m
    · rw [← z, List.getElem?_set_self (by rw [z]; exact (List.getElem?_eq_some_iff.mp q).1)]
    · rw [List.getElem?_set_ne z]; exact q, fun _ _ h _ => h, fun _ _ h => .inl h, fun _ h => h, fun _ h => .inl h, fun _ h => h⟩
theorem RelS.kill (S : RelS C H ρ st) {l : Nat} : RelS C H ρ (st.set l .dead) := by
  refine ⟨by simp [S.len], S.inj, fun m b y q r => ?_, S.hid⟩
  by_cases z : l = m
  · subst z
    rw [List.getElem?_set_self (by rw [← S.len]; exact (List.getElem?_eq_some_iff.mp q).1)] at r
    cases r
    exact S.has q
  · rw [List.getElem?_set_ne z] at r
    exact (S.obj m b y q r).evo Evo.kill S.liv rfl
/-- a new object that one alone writes -/
theorem Evo.hide {p : Addr} {o : HO} (hp : H p = none) : Evo H ρ st (upd H p o) (ρ.hide p) st :=
  ⟨fun _ _ h => h, fun _ h => h, fun a u h _ => by rw [upd_ne (ne_of_none h hp)]; exact h, fun _ _ h => .inl h, fun a h => by
    by_cases e : a = p
    · rw [e]; exact hp
    · rw [upd_ne e] at h; exact h, fun a h => by
    rcases List.mem_cons.mp h with h | h
    · rw [h]; exact .inr hp
    · exact .inl h, fun a h => List.mem_cons_of_mem _ h⟩
theorem RelS.hide (S : RelS C H ρ st) {p : Addr} {o : HO} (hp : H p = none) (ho : isMutO o) : RelS C (upd H p o) (ρ.hide p) st :=
  ⟨S.len, S.inj, fun l a u h e => (S.obj l a u h e).evo (Evo.hide hp) S.liv (upd_ne fun z => (S.fresh hp).1 l (z ▸ h)), fun a h => by
    rcases List.mem_cons.mp h with h | h
    · rw [h]; exact ⟨⟨o, upd_same, ho⟩, (S.fresh hp).1⟩
    · obtain ⟨⟨o, e, m⟩, q⟩ := S.hid a h
      exact ⟨⟨o, by rw [upd_ne (ne_of_none e hp)]; exact e, m⟩, q⟩⟩
end
/-! what is hidden is written: nothing else leans on it -/
section
variable {K : PySem.W.Frag} {C : MC} {H : Hp} {ρ : Pl} {st : Sto} {D : Addr} {o : HO}
mutual
theorem Rep.hidw (hD : D ∈ ρ.hd) (hm : ∃ u, H D = some u ∧ isMutO u) : ∀ {v : V} {w : W}, Rep K H ρ st v w → Rep K (upd H D o) ρ st v w
  | _, _, .non => .non
  | _, _, .bl b => .bl b
  | _, _, .int i => .int i
  | _, _, .str x => .str x
  | _, _, .raw v => .raw v
  | _, _, .tup h r => .tup (by
      obtain ⟨u, hu, mu⟩ := hm
      rcases h with (h | ⟨x, h⟩) | h
      · exact .inl (.inl (by rw [upd_ne (ne_of h hu (fun z => by rw [← z] at mu; exact mu))]; exact h))
      · exact .inl (.inr ⟨x, by rw [upd_ne (ne_of h hu (fun z => by rw [← z] at mu; exact mu))]; exact h⟩)
      · exact .inr h) (RepL.hidw hD hm r)
  | _, _, .fl h n r => .fl (by rw [upd_ne (fun z => n.2 (by rw [z]; exact hD))]; exact h) n (RepL.hidw hD hm r)
  | _, _, .kl h r => .kl (by
      obtain ⟨u, hu, mu⟩ := hm
      rcases h with ⟨h, n⟩ | ⟨x, h⟩ | h
      · exact .inl ⟨by rw [upd_ne (fun z => n.2 (by rw [z]; exact hD))]; exact h, n⟩
      · exact .inr (.inl ⟨x, by rw [upd_ne (ne_of h hu (fun z => by rw [← z] at mu; exact mu))]; exact h⟩)
      · exact .inr (.inr h)) (RepL.hidw hD hm r)
  | _, _, .loc h => .loc h
theorem RepL.hidw (hD : D ∈ ρ.hd) (hm : ∃ u, H D = some u ∧ isMutO u) : ∀ {vs : List V} {ws : List W}, RepL K H ρ st vs ws → RepL K (upd H D o) ρ st vs ws
  | _, _, .nil => .nil
  | _, _, .cons h r => .cons (Rep.hidw hD hm h) (RepL.hidw hD hm r)
end
theorem RepK.hidw (hD : D ∈ ρ.hd) (hm : ∃ u, H D = some u ∧ isMutO u) : ∀ {kvs : List (Key × V)} {kws : List (Key × W)}, RepK K H ρ st kvs kws → RepK K (upd H D o) ρ st kvs kws
  | [], [], _ => trivial
  | (k, v) :: kvs, (j, w) :: kws, h => ⟨h.1, h.2.1.hidw hD hm, RepK.hidw hD hm h.2.2⟩
  | [], _ :: _, h => h.elim
  | _ :: _, [], h => h.elim
/-- what was hidden is hidden no more -/
def Pl.show (ρ : Pl) (D : Addr) : Pl := ⟨ρ.pl, ρ.hd.filter fun a => decide (a ≠ D)⟩
theorem show_sub {a : Addr} (h : a ∈ (ρ.show D).hd) : a ∈ ρ.hd := (List.mem_filter.mp h).1
theorem show_not : D ∉ (ρ.show D).hd := fun h => by simpa using (List.mem_filter.mp h).2
theorem show_mem {a : Addr} (h : a ∈ ρ.hd) (ne : a ≠ D) : a ∈ (ρ.show D).hd := List.mem_filter.mpr ⟨h, by simpa using ne⟩
theorem NL.shown {a : Addr} (n : NL ρ st a) : NL (ρ.show D) st a := ⟨n.1, fun h => n.2 (show_sub h)⟩
mutual
theorem Rep.shown : ∀ {v : V} {w : W}, Rep K H ρ st v w → Rep K H (ρ.show D) st v w
  | _, _, .non => .non
  | _, _, .bl b => .bl b
  | _, _, .int i => .int i
  | _, _, .str x => .str x
  | _, _, .raw v => .raw v
  | _, _, .tup h r => .tup h (RepL.shown r)
  | _, _, .fl h n r => .fl h n.shown (RepL.shown r)
  | _, _, .kl h r => .kl (by
      rcases h with ⟨h, n⟩ | h
      · exact .inl ⟨h, n.shown⟩
      · exact .inr h) (RepL.shown r)
  | _, _, .loc h => .loc h
theorem RepL.shown : ∀ {vs : List V} {ws : List W}, RepL K H ρ st vs ws → RepL K H (ρ.show D) st vs ws
  | _, _, .nil => .nil
  | _, _, .cons h r => .cons (Rep.shown h) (RepL.shown r)
end
theorem RepK.shown : ∀ {kvs : List (Key × V)} {kws : List (Key × W)}, RepK K H ρ st kvs kws → RepK K H (ρ.show D) st kvs kws
  | [], [], _ => trivial
  | (k, v) :: kvs, (j, w) :: kws, h => ⟨h.1, h.2.1.shown, RepK.shown h.2.2⟩
  | [], _ :: _, h => h.elim
  | _ :: _, [], h => h.elim
theorem RelS.shown (S : RelS C H ρ st) : RelS C H (ρ.show D) st := by
  refine ⟨S.len, S.inj, fun l a u h e => ?_, fun a h => S.hid a (show_sub h)⟩
  have q := S.obj l a u h e
  cases u with
  | dead => exact q
  | lst ws => obtain ⟨vs, q, r⟩ := q; exact ⟨vs, q, r.shown⟩
  | ins c fs => obtain ⟨Cd, nm, dx, fvs, q1, q2, r1, r2, r3⟩ := q; exact ⟨Cd, nm, dx, fvs, q1, q2, r1, fun i f w a b => let ⟨v, e, r⟩ := r2 i f w a b; ⟨v, e, r.shown⟩, r3⟩
  | dct kws => obtain ⟨kvs, q, r⟩ := q; exact ⟨kvs, q, RepK.shown r⟩
theorem RelS.hidw (S : RelS C H ρ st) (hD : D ∈ ρ.hd) (ho : isMutO o) : RelS C (upd H D o) ρ st := by
  obtain ⟨hm, nD⟩ := S.hid D hD
  refine ⟨S.len, S.inj, fun l a u h e => ?_, fun a h => ?_⟩
  · have ne : a ≠ D := fun z => nD l (by rw [← z]; exact h)
    have q := S.obj l a u h e
    cases u with
    | dead => obtain ⟨u, q⟩ := q; exact ⟨u, (upd_ne ne).trans q⟩
    | lst ws => obtain ⟨vs, q, r⟩ := q; exact ⟨vs, (upd_ne ne).trans q, r.hidw hD hm⟩
    | ins c fs => obtain ⟨Cd, nm, dx, fvs, q1, q2, r1, r2, r3⟩ := q; exact ⟨Cd, nm, dx, fvs, q1, (upd_ne ne).trans q2, r1, fun i f w a b => let ⟨v, e, r⟩ := r2 i f w a b; ⟨v, e, r.hidw hD hm⟩, r3⟩
    | dct kws => obtain ⟨kvs, q, r⟩ := q; exact ⟨kvs, (upd_ne ne).trans q, RepK.hidw hD hm r⟩
  · by_cases z : a = D
    · rw [z]; exact ⟨⟨o, upd_same, ho⟩, nD⟩
    · obtain ⟨⟨u, e, m⟩, q⟩ := S.hid a h
      exact ⟨⟨u, (upd_ne z).trans e, m⟩, q⟩
end

/-- the slots -/
def RelE (K : PySem.W.Frag) (H : Hp) (ρ : Pl) (st : Sto) (σ : St) (env : En) : Prop :=
  env.length = σ.length ∧ ∀ (i : Nat) (w : W), env[i]? = some (some w) → ∃ v, σ[i]? = some (some v) ∧ Rep K H ρ st v w
section
variable {K : PySem.W.Frag} {H H' : Hp} {ρ ρ' : Pl} {st st' : Sto} {σ : St} {env : En}
theorem RelE.evo (E : Evo H ρ st H' ρ' st') (L : Liv H ρ st) (h : RelE K H ρ st σ env) : RelE K H' ρ' st' σ env :=
  ⟨h.1, fun i w e => let ⟨v, q, r⟩ := h.2 i w e; ⟨v, q, r.evo E L⟩⟩
theorem RelE.set (h : RelE K H ρ st σ env) {v : V} {w : W} (r : Rep K H ρ st v w) (i : Nat) : RelE K H ρ st (σ.set i (some v)) (env.set i (some w)) := by
  refine ⟨by simp [h.1], fun j x e => ?_⟩
  by_cases z : i = j
  · subst z
    have hi : i < env.length := by
      have := (List.getElem?_eq_some_iff.mp e).1
      simpa using this
    rw [List.getElem?_set_self hi] at e
    cases e
    exact ⟨v, by rw [List.getElem?_set_self (by rw [← h.1]; exact hi)], r⟩
  · rw [List.getElem?_set_ne z] at e
    obtain ⟨v, q, r⟩ := h.2 j x e
    exact ⟨v, by rw [List.getElem?_set_ne z]; exact q, r⟩
end

/-- what a result is worth -/
def Post {α β : Type} (rel : Hp → Pl → Sto → β → α → Prop) (C : MC) (E : XK) (H : Hp) (ρ : Pl) (st : Sto) (r : R α) (Q : β → Hp → Prop) : Prop :=
  match r with
  | .ok w st' => ∀ H' ρ' v, Evo H ρ st H' ρ' st' → RelS C H' ρ' st' → rel H' ρ' st' v w → Q v H'
  | .ex c st' => ∀ H' ρ' a, Evo H ρ st H' ρ' st' → RelS C H' ρ' st' → C.exn[c]? = some a → E (.ref a) none H'
  | .no => False
section
variable {α β γ δ : Type} {rel : Hp → Pl → Sto → β → α → Prop} {rel' : Hp → Pl → Sto → δ → γ → Prop} {C : MC} {E : XK} {H H1 : Hp} {ρ ρ1 : Pl} {st st1 : Sto} {r : R α} {Q : β → Hp → Prop}
theorem Post.shift (h : Post rel C E H ρ st r Q) (e : Evo H ρ st H1 ρ1 st1) : Post rel C E H1 ρ1 st1 r Q := by
  cases r with
  | ok w st' => exact fun H' ρ' v e' s q => h H' ρ' v (e.trans e') s q
  | ex c st' => exact fun H' ρ' a e' s q => h H' ρ' a (e.trans e') s q
  | no => exact h
theorem Post.bind {f : α → Sto → R γ} {Q' : δ → Hp → Prop} (h : Post rel' C E H ρ st (r.bind f) Q')
    (k : ∀ (w : α) (st1 : Sto) (H1 : Hp) (ρ1 : Pl) (v : β), r = .ok w st1 → Evo H ρ st H1 ρ1 st1 → RelS C H1 ρ1 st1 → rel H1 ρ1 st1 v w → Post rel' C E H1 ρ1 st1 (f w st1) Q' → Q v H1) : Post rel C E H ρ st r Q := by
  cases r with
  | ok w st' => exact fun H' ρ' v e s q => k w st' H' ρ' v rfl e s q (Post.shift (h : Post rel' C E H ρ st (f w st') Q') e)
  | ex c st' => exact h
  | no => exact h
theorem Post.imp {Q' : β → Hp → Prop} (h : Post rel C E H ρ st r Q) (k : ∀ v H, Q v H → Q' v H) : Post rel C E H ρ st r Q' := by
  cases r with
  | ok w st' => exact fun H' ρ' v e s q => k _ _ (h H' ρ' v e s q)
  | ex c st' => exact h
  | no => exact h
end
abbrev relW (C : MC) : Hp → Pl → Sto → V → W → Prop := fun H ρ st v w => Rep C.K H ρ st v w
abbrev relWs (C : MC) : Hp → Pl → Sto → List V → List W → Prop := fun H ρ st v w => RepL C.K H ρ st v w
abbrev relB : Hp → Pl → Sto → Bool → Bool → Prop := fun _ _ _ v w => v = w
abbrev relI : Hp → Pl → Sto → Option Int → Option Int → Prop := fun _ _ _ v w => v = w

def tM (C : MC) (E : XK) (m : Ex) : TE := fun σ H Q => ∃ ρ st env, RelE C.K H ρ st σ env ∧ RelS C H ρ st ∧ Post (relW C) C E H ρ st (m env st) Q
def tMB (C : MC) (E : XK) (m : Bx) : TT := fun σ H Q => ∃ ρ st env, RelE C.K H ρ st σ env ∧ RelS C H ρ st ∧ Post relB C E H ρ st (m env st) Q
def tMA (C : MC) (E : XK) (m : Ax) : TA := fun σ H Q => ∃ ρ st env, RelE C.K H ρ st σ env ∧ RelS C H ρ st ∧ Post (relWs C) C E H ρ st (m env st) Q
def PostS (C : MC) (E : XK) (H : Hp) (ρ : Pl) (st : Sto) (r : SR) (D : Ends) : Prop :=
  match r with
  | .nx env' st' => ∀ H' ρ' σ', Evo H ρ st H' ρ' st' → RelS C H' ρ' st' → RelE C.K H' ρ' st' σ' env' → D.nx σ' H'
  | .bk env' st' => ∀ H' ρ' σ', Evo H ρ st H' ρ' st' → RelS C H' ρ' st' → RelE C.K H' ρ' st' σ' env' → D.bk σ' H'
  | .ct env' st' => ∀ H' ρ' σ', Evo H ρ st H' ρ' st' → RelS C H' ρ' st' → RelE C.K H' ρ' st' σ' env' → D.ct σ' H'
  | .rt w st' => ∀ H' ρ' v, Evo H ρ st H' ρ' st' → RelS C H' ρ' st' → Rep C.K H' ρ' st' v w → D.rt v H'
  | .ex c st' => ∀ H' ρ' a, Evo H ρ st H' ρ' st' → RelS C H' ρ' st' → C.exn[c]? = some a → E (.ref a) none H'
  | .no => False
def tMS (C : MC) (E : XK) (m : Sx) : TS := fun D σ H => ∃ ρ st env, RelE C.K H ρ st σ env ∧ RelS C H ρ st ∧ PostS C E H ρ st (m env st) D
theorem PostS.shift {C : MC} {E : XK} {H H1 : Hp} {ρ ρ1 : Pl} {st st1 : Sto} {r : SR} {D : Ends} (h : PostS C E H ρ st r D) (e : Evo H ρ st H1 ρ1 st1) : PostS C E H1 ρ1 st1 r D := by
  cases r with
  | nx w st' => exact fun H' ρ' v e' s q => h H' ρ' v (e.trans e') s q
  | bk w st' => exact fun H' ρ' v e' s q => h H' ρ' v (e.trans e') s q
  | ct w st' => exact fun H' ρ' v e' s q => h H' ρ' v (e.trans e') s q
  | rt w st' => exact fun H' ρ' v e' s q => h H' ρ' v (e.trans e') s q
  | ex c st' => exact fun H' ρ' a e' s q => h H' ρ' a (e.trans e') s q
  | no => exact h
/-- from an expression to a statement -/
def R.toS {α : Type} (r : R α) (f : α → Sto → SR) : SR := match r with
  | .ok a s => f a s
  | .ex c s => .ex c s
  | .no => .no
@[simp] theorem R.toS_ok {α : Type} (a : α) (s : Sto) (f : α → Sto → SR) : (R.ok a s).toS f = f a s := rfl
@[simp] theorem R.toS_ex {α : Type} (c : Nat) (s : Sto) (f : α → Sto → SR) : (R.ex c s).toS f = .ex c s := rfl
@[simp] theorem R.toS_no {α : Type} (f : α → Sto → SR) : (R.no : R α).toS f = .no := rfl
@[simp] theorem R.toS_ite {α : Type} (c : Prop) [Decidable c] (a b : R α) (f : α → Sto → SR) : (if c then a else b).toS f = if c then a.toS f else b.toS f := by split <;> rfl
theorem PostS.bind {α β : Type} {rel : Hp → Pl → Sto → β → α → Prop} {C : MC} {E : XK} {H : Hp} {ρ : Pl} {st : Sto} {r : R α} {f : α → Sto → SR} {D : Ends} {Q : β → Hp → Prop} (h : PostS C E H ρ st (r.toS f) D)
    (k : ∀ (w : α) (st1 : Sto) (H1 : Hp) (ρ1 : Pl) (v : β), r = .ok w st1 → Evo H ρ st H1 ρ1 st1 → RelS C H1 ρ1 st1 → rel H1 ρ1 st1 v w → PostS C E H1 ρ1 st1 (f w st1) D → Q v H1) : Post rel C E H ρ st r Q := by
  cases r with
  | ok w st' => exact fun H' ρ' v e s q => k w st' H' ρ' v rfl e s q (PostS.shift (h : PostS C E H ρ st (f w st') D) e)
  | ex c st' => exact h
  | no => exact h

/-! ### the judgements -/
def ME (X : Cx) (C : MC) (E : XK) (e : Expr) (m : Ex) : Prop := PE X e (tM C E m)
def MT (X : Cx) (C : MC) (E : XK) (e : Expr) (m : Bx) : Prop := PT X e (tMB C E m)
def MW (X : Cx) (C : MC) (E : XK) (e : Expr) (m : Bx) : Prop := PW X e (tMB C E m)
def MA (X : Cx) (C : MC) (E : XK) (es : List Expr) (m : Ax) : Prop := PA X es (tMA C E m)
def MS (X : Cx) (C : MC) (E : XK) (s : Stmt) (m : Sx) : Prop := PS X s (tMS C E m)
def MSs (X : Cx) (C : MC) (E : XK) (s : List Stmt) (m : Sx) : Prop := PSs X s (tMS C E m)
theorem PE.imp {X : Cx} {e : Expr} {t t' : TE} (h : PE X e t) (k : ∀ σ H Q, t' σ H Q → t σ H Q) : PE X e t' := ⟨fun pins s σ H Q I q => h.run pins s σ H Q I (k _ _ _ q)⟩
theorem PT.imp {X : Cx} {e : Expr} {t t' : TT} (h : PT X e t) (k : ∀ σ H Q, t' σ H Q → t σ H Q) : PT X e t' := ⟨fun pins s σ H Q I q => h.run pins s σ H Q I (k _ _ _ q)⟩
theorem PW.imp {X : Cx} {e : Expr} {t t' : TT} (h : PW X e t) (k : ∀ σ H Q, t' σ H Q → t σ H Q) : PW X e t' := ⟨fun wh pins s σ H Q I q => h.run wh pins s σ H Q I (k _ _ _ q)⟩
theorem PA.imp {X : Cx} {e : List Expr} {t t' : TA} (h : PA X e t) (k : ∀ σ H Q, t' σ H Q → t σ H Q) : PA X e t' := ⟨fun ps pins s σ H Q I q => h.run ps pins s σ H Q I (k _ _ _ q)⟩
theorem PS.imp {X : Cx} {e : Stmt} {t t' : TS} (h : PS X e t) (k : ∀ D σ H, t' D σ H → t D σ H) : PS X e t' := ⟨fun pins s σ H D I q => h.run pins s σ H D I (k _ _ _ q)⟩
theorem PSs.imp {X : Cx} {e : List Stmt} {t t' : TS} (h : PSs X e t) (k : ∀ D σ H, t' D σ H → t D σ H) : PSs X e t' := ⟨fun pins s σ H D I q => h.run pins s σ H D I (k _ _ _ q)⟩
end ML

/-! ML2: rules for expressions -/
namespace ML
open PySem L2
noncomputable section
variable {X : Cx} {C : MC} {E : XK}

/-! ### names, constants -/
def vr (i : Nat) : Ex := fun env st => match env[i]? with
  | some (some w) => .ok w st
  | _ => .no
def kk (w : W) : Ex := fun _ st => .ok w st
theorem me_var {i : Nat} {x : Str} {pos : Pos} (h : PE X (.Name x pos) (tVar i)) : ME X C E (.Name x pos) (vr i) := by
  refine PE.imp h fun σ H Q ⟨ρ, st, env, re, S, p⟩ => ?_
  unfold vr at p
  split at p
  · rename_i w e
    obtain ⟨v, q, r⟩ := re.2 i w e
    exact ⟨v, q, p H ρ v (Evo.refl ..) S r⟩
  · exact p.elim
theorem me_c {e : Expr} {v : V} {w : W} (h : PE X e (tC v)) (r : ∀ H ρ st, Rep C.K H ρ st v w) : ME X C E e (kk w) :=
  PE.imp h fun σ H Q ⟨ρ, st, env, re, S, p⟩ => p H ρ v (Evo.refl ..) S (r ..)
theorem me_int {i : Int} {j : Nat} {pos : Pos} : ME X C E (.Constant (.int i) j pos) (kk (.int i)) := me_c pe_int fun _ _ _ => .int i
theorem me_bl {b : Bool} {j : Nat} {pos : Pos} : ME X C E (.Constant (.bool b) j pos) (kk (.bl b)) := me_c pe_bl fun _ _ _ => .bl b
theorem me_non {j : Nat} {pos : Pos} : ME X C E (.Constant .none j pos) (kk .non) := me_c pe_non fun _ _ _ => .non
theorem me_str {x : Str} {j : Nat} {pos : Pos} : ME X C E (.Constant (.str x) j pos) (kk (.str x)) := me_c pe_str fun _ _ _ => .str x
/-- a constant of the module -/
structure GC (K : PySem.W.Frag) (v : V) (w : W) : Prop where
  rep : ∀ H ρ st, Rep K H ρ st v w
theorem me_glob {x : Str} {v : V} {w : W} {u : Value} {pos : Pos} (hg : Gl X x) (hm : X.mg x = some u) (r : RelV v u) (g : GC C.K v w) (hd : (x == ("__debug__" : Str)) = false := by decide) : ME X C E (.Name x pos) (kk w) :=
  me_c (pe_glob hg hm r hd) g.rep

/-! ### operators of two values -/
def bn (f : W → W → Sto → R W) (a b : Ex) : Ex := fun env st => (a env st).bind fun x s1 => (b env s1).bind fun y s2 => f x y s2
def un (f : W → Sto → R W) (a : Ex) : Ex := fun env st => (a env st).bind fun x s1 => f x s1
/-- the rule r reads as f -/
def OpM (C : MC) (E : XK) (r : R2) (f : W → W → Sto → R W) : Prop := ∀ (H : Hp) (ρ : Pl) (st : Sto) (v u : V) (x y : W) (Q : VK),
  RelS C H ρ st → Rep C.K H ρ st v x → Rep C.K H ρ st u y → Post (relW C) C E H ρ st (f x y st) Q → r v u H Q
theorem tOp_of {r : R2} {f : W → W → Sto → R W} {ma mb : Ex} (hf : OpM C E r f) {σ : St} {H : Hp} {Q : VK} (h : tM C E (bn f ma mb) σ H Q) : tOp r (tM C E ma) (tM C E mb) σ H Q := by
  obtain ⟨ρ, st, env, re, S, p⟩ := h
  refine ⟨ρ, st, env, re, S, Post.bind p fun x s1 H1 ρ1 v _ e1 S1 r1 p1 => ?_⟩
  refine ⟨ρ1, s1, env, re.evo e1 S.liv, S1, Post.bind p1 fun y s2 H2 ρ2 u _ e2 S2 r2 p2 => ?_⟩
  exact hf H2 ρ2 s2 v u x y Q S2 (r1.evo e2 S1.liv) r2 p2
variable {a b c e : Expr} {ma mb mc : Ex} {pos : Pos}
theorem me_op {op : Operator} {r : R2} {f : W → W → Sto → R W} (ho : OpR X (binaryOp op) r) (hf : OpM C E r f) (ha : ME X C E a ma) (hb : ME X C E b mb) : ME X C E (.BinOp a op b pos) (bn f ma mb) :=
  PE.imp (pe_op ho ha hb) fun _ _ _ h => tOp_of hf h
theorem me_cmp {op : CmpOp} {r : R2} {f : W → W → Sto → R W} (ho : OpR X (compareOp op) r) (hf : OpM C E r f) (ha : ME X C E a ma) (hb : ME X C E b mb) (hm : behindInMarks op b = false) : ME X C E (.Compare a [op] [b] pos) (bn f ma mb) :=
  PE.imp (pe_cmpR ho ha hb hm) fun _ _ _ h => tOp_of hf h
/-- a bool -/
def tb (a : Ex) : Bx := fun env st => (a env st).bind fun x s1 => x.cb fun k => .ok k s1
theorem tTest_of {t : TE} {m : Ex} (k : ∀ σ H Q, tM C E m σ H Q → t σ H Q) {σ : St} {H : Hp} {Q : Bool → Hp → Prop} (h : tMB C E (tb m) σ H Q) : t σ H fun x H' => ∃ k, x = .bl k ∧ Q k H' := by
  obtain ⟨ρ, st, env, re, S, p⟩ := h
  refine k _ _ _ ⟨ρ, st, env, re, S, Post.bind p fun x s1 H1 ρ1 v _ e1 S1 r1 p1 => ?_⟩
  cases x with
  | bl k => cases r1; exact ⟨k, rfl, p1 H1 ρ1 k (Evo.refl ..) S1 rfl⟩
  | _ => exact p1.elim
theorem mt_cmp {op : CmpOp} {r : R2} {f : W → W → Sto → R W} (ho : OpR X (compareOp op) r) (hf : OpM C E r f) (ha : ME X C E a ma) (hb : ME X C E b mb) (hm : behindInMarks op b = false) : MT X C E (.Compare a [op] [b] pos) (tb (bn f ma mb)) :=
  PT.imp (pt_cmpR ho ha hb hm) fun _ _ _ h => tTest_of (fun _ _ _ h => tOp_of hf h) h
def chn (f g : W → W → Sto → R W) (a b c : Ex) : Ex := fun env st => (a env st).bind fun x s1 => (b env s1).bind fun y s2 => (f x y s2).bind fun z s3 => z.cb fun k => if k = true then (c env s3).bind fun w s4 => g y w s4 else .ok (.bl false) s3
theorem Post.of {H : Hp} {ρ : Pl} {st : Sto} {r : R W} {Q : VK} (h : Post (relW C) C E H ρ st r Q) : Post (relW C) C E H ρ st r Q := h
theorem tChain_of {r r' : R2} {f g : W → W → Sto → R W} (hf : OpM C E r f) (hg : OpM C E r' g) {σ : St} {H : Hp} {Q : VK} (h : tM C E (chn f g ma mb mc) σ H Q) : tChain r r' (tM C E ma) (tM C E mb) (tM C E mc) σ H Q := by
  obtain ⟨ρ, st, env, re, S, p⟩ := h
  refine ⟨ρ, st, env, re, S, Post.bind p fun x s1 H1 ρ1 v _ e1 S1 r1 p1 => ?_⟩
  have re1 := re.evo e1 S.liv
  refine ⟨ρ1, s1, env, re1, S1, Post.bind p1 fun y s2 H2 ρ2 u _ e2 S2 r2 p2 => ?_⟩
  have re2 := re1.evo e2 S1.liv
  refine hf H2 ρ2 s2 v u x y _ S2 (r1.evo e2 S1.liv) r2 (Post.bind p2 fun z s3 H3 ρ3 vz _ e3 S3 r3 p3 => ?_)
  cases z with
  | bl k =>
    cases r3
    refine ⟨k, rfl, ?_⟩
    cases k with
    | false => exact (if_neg (by decide)).mpr (p3 H3 ρ3 _ (Evo.refl ..) S3 (.bl false))
    | true =>
      refine (if_pos rfl).mpr ?_
      refine ⟨ρ3, s3, env, re2.evo e3 S2.liv, S3, Post.bind p3 fun w s4 H4 ρ4 vw _ e4 S4 r4 p4 => ?_⟩
      exact hg H4 ρ4 s4 u vw y w _ S4 ((r2.evo e3 S2.liv).evo e4 S3.liv) r4 p4
  | _ => exact p3.elim
theorem me_chain {op op' : CmpOp} {r r' : R2} {f g : W → W → Sto → R W} (ho : OpR X (compareOp op) r) (ho' : OpR X (compareOp op') r') (hf : OpM C E r f) (hg : OpM C E r' g) (ha : ME X C E a ma) (hb : ME X C E b mb) (hc : ME X C E c mc)
    (hm : lastMarks [op, op'] [b, c] = false := by with_unfolding_all rfl) : ME X C E (.Compare a [op, op'] [b, c] pos) (chn f g ma mb mc) :=
  PE.imp (pe_chain ho ho' ha hb hc hm) fun _ _ _ h => tChain_of hf hg h
theorem mt_chain {op op' : CmpOp} {r r' : R2} {f g : W → W → Sto → R W} (ho : OpR X (compareOp op) r) (ho' : OpR X (compareOp op') r') (hf : OpM C E r f) (hg : OpM C E r' g) (ha : ME X C E a ma) (hb : ME X C E b mb) (hc : ME X C E c mc)
    (hm : lastMarks [op, op'] [b, c] = false := by with_unfolding_all rfl) : MT X C E (.Compare a [op, op'] [b, c] pos) (tb (chn f g ma mb mc)) :=
  PT.imp (pt_chain ho ho' ha hb hc hm) fun _ _ _ h => tTest_of (fun _ _ _ h => tChain_of hf hg h) h
/-- an expression whose value is a bool, as a test -/
theorem mt_val (h : ME X C E e ma) (he : ∀ whole, isTrue e X.env whole = (do let v ← whole; standAt e.pos; holding [v] (truthy v)) := by intro _; rfl) : MT X C E e (tb ma) :=
  PT.imp (pt_val h he) fun _ _ _ h => tTest_of (fun _ _ _ h => h) h

/-! ### lists and tuples that stand -/
def lstOf (s : Sto) (w : W) : Option (List W) := match w with
  | .fl ws => some ws
  | .loc l => match s[l]? with
    | some (.lst ws) => some ws
    | _ => none
  | _ => none
def seqOf (s : Sto) (w : W) : Option (List W) := match w with
  | .tup ws => some ws
  | .kl ws => some ws
  | w => lstOf s w
theorem lstOf_rep {H : Hp} {ρ : Pl} {st : Sto} {v : V} {w : W} {ws : List W} (S : RelS C H ρ st) (r : Rep C.K H ρ st v w) (h : lstOf st w = some ws) : ∃ a vs, v = .ref a ∧ H a = some (.lst vs) ∧ RepL C.K H ρ st vs ws := by
  cases r with
  | fl h1 h2 h3 => cases h; exact ⟨_, _, rfl, h1, h3⟩
  | @loc a l h1 =>
    unfold lstOf at h
    simp only at h
    split at h
    · rename_i ws' e
      cases h
      obtain ⟨vs, q, r⟩ := S.obj l a _ h1 e
      exact ⟨a, vs, rfl, q, r⟩
    · cases h
  | _ => cases h
theorem seqOf_rep {H : Hp} {ρ : Pl} {st : Sto} {v : V} {w : W} {ws : List W} (S : RelS C H ρ st) (r : Rep C.K H ρ st v w) (h : seqOf st w = some ws) : ∃ a vs, v = .ref a ∧ (SqL C.K H a vs ∨ SqT C.K H a vs) ∧ RepL C.K H ρ st vs ws := by
  cases w with
  | tup ws' => cases r with | tup h1 h2 => cases h; exact ⟨_, _, rfl, .inr h1, h2⟩
  | kl ws' => cases r with | kl h1 h2 => cases h; exact ⟨_, _, rfl, .inl h1.seq, h2⟩
  | fl ws' => obtain ⟨a, vs, e, q, r⟩ := lstOf_rep S r (show lstOf st (.fl ws') = some ws from h); exact ⟨a, vs, e, .inl (SqL.of q), r⟩
  | loc l => obtain ⟨a, vs, e, q, r⟩ := lstOf_rep S r (show lstOf st (.loc l) = some ws from h); exact ⟨a, vs, e, .inl (SqL.of q), r⟩
  | _ => cases h
theorem fl_new {H : Hp} {ρ : Pl} {st : Sto} {p : Addr} {vs : List V} {ws : List W} (S : RelS C H ρ st) (hp : H p = none) (r : RepL C.K H ρ st vs ws) : Rep C.K (upd H p (.lst vs)) ρ st (.ref p) (.fl ws) :=
  .fl upd_same (S.nl hp) (r.evo (Evo.laid hp) S.liv)
theorem tup_new {H : Hp} {ρ : Pl} {st : Sto} {p : Addr} {vs : List V} {ws : List W} (S : RelS C H ρ st) (hp : H p = none) (r : RepL C.K H ρ st vs ws) : Rep C.K (upd H p (.tup vs)) ρ st (.ref p) (.tup ws) :=
  .tup (SqT.of upd_same) (r.evo (Evo.laid hp) S.liv)
theorem loc_new {H : Hp} {ρ : Pl} {st : Sto} {p : Addr} (S : RelS C H ρ st) {o : HO} {u : O} : Rep C.K (upd H p o) (ρ.add p) (st ++ [u]) (.ref p) (.loc st.length) :=
  .loc (by rw [← S.len]; exact add_new)
theorem lst_push {H : Hp} {ρ : Pl} {st : Sto} {p : Addr} {vs : List V} {ws : List W} (S : RelS C H ρ st) (hp : H p = none) (r : RepL C.K H ρ st vs ws) : RelS C (upd H p (.lst vs)) (ρ.add p) (st ++ [.lst ws]) :=
  S.push hp ⟨vs, upd_same, r.evo (Evo.push hp) S.liv⟩

/-! ### the operators -/
theorem szL {n : Nat} (h : n ≤ 10000000) : n ≤ sizeLine := Nat.le_trans h (by decide)
def addW (x y : W) (s : Sto) : R W := match x, y with
  | .int i, .int j => .ok (.int (i + j)) s
  | .str i, .str j => if ck (i.length + j.length ≤ 10000000) = true then .ok (.str (i ++ j)) s else .no
  | .tup xs, .tup ys => if ck (xs ≠ [] ∧ xs.length + ys.length ≤ 10000000) = true then .ok (.tup (xs ++ ys)) s else .no
  | x, y => match lstOf s x, lstOf s y with
    | some xs, some ys => if ck (xs.length + ys.length ≤ 10000000) = true then .ok (.fl (xs ++ ys)) s else .no
    | _, _ => .no
def rAddU (K : PySem.W.Frag) : R2 := fun x y H Q => (rI0 (fun i j => .int (i + j)) x y H Q ∨ (∃ i j, x = .str i ∧ y = .str j ∧ i.length + j.length ≤ sizeLine ∧ Q (.str (i ++ j)) H)) ∨ (rCatT K x y H Q ∨ rCat x y H Q)
theorem or_add : OpR X (binaryOp .Add) (rAddU X.K) := (op_add.or op_add_str).or (op_catT.or op_cat)
theorem om_add : OpM C E (rAddU C.K) addW := by
  intro H ρ st v u x y Q S rx ry p
  unfold addW at p
  split at p
  · cases rx; cases ry
    exact .inl (.inl ⟨_, _, rfl, rfl, p H ρ _ (Evo.refl ..) S (.int _)⟩)
  · cases rx; cases ry
    split at p
    · rename_i h
      exact .inl (.inr ⟨_, _, rfl, rfl, szL (ck_iff.mp h), p H ρ _ (Evo.refl ..) S (.str _)⟩)
    · exact p.elim
  · cases rx with
    | tup h1 h2 =>
      cases ry with
      | tup h3 h4 =>
        split at p
        · rename_i xs ys h
          have nn : ∀ {us : List V} {ws : List W}, RepL C.K H ρ st us ws → (us = [] ↔ ws = []) := fun r => by cases r <;> simp
          have h := ck_iff.mp h
          refine .inr (.inl ⟨_, _, _, _, rfl, rfl, h1, h3, fun z => h.1 ((nn h2).mp z), by rw [h2.length, h4.length]; exact szL h.2, fun z => ?_, fun z q hq => ?_⟩)
          · refine p H ρ _ (Evo.refl ..) S (.tup h1 ?_)
            rw [(nn h4).mp z, List.append_nil]
            exact h2
          · exact p _ ρ _ (Evo.laid hq) (S.laid hq) (tup_new S hq (h2.append h4))
        · exact p.elim
  · split at p
    · rename_i xs ys e1 e2
      obtain ⟨a, vs, rfl, h1, r1⟩ := lstOf_rep S rx e1
      obtain ⟨b, us, rfl, h2, r2⟩ := lstOf_rep S ry e2
      split at p
      · rename_i h
        refine .inr (.inr ⟨_, _, _, _, rfl, rfl, h1, h2, by rw [r1.length, r2.length]; exact szL (ck_iff.mp h), fun q hq => ?_⟩)
        exact p _ ρ _ (Evo.laid hq) (S.laid hq) (fl_new S hq (r1.append r2))
      · exact p.elim
    · exact p.elim
/-- two ints -/
def intW (c : Int → Int → Bool) (g : Int → Int → W) (x y : W) (s : Sto) : R W := match x, y with
  | .int i, .int j => if c i j = true then .ok (g i j) s else .no
  | _, _ => .no
theorem om_rI {Cc : Int → Int → Prop} {c : Int → Int → Bool} {gV : Int → Int → V} {g : Int → Int → W} (hc : ∀ i j, c i j = true → Cc i j) (hr : ∀ H ρ st i j, Rep C.K H ρ st (gV i j) (g i j)) : OpM C E (rI Cc gV) (intW c g) := by
  intro H ρ st v u x y Q S rx ry p
  unfold intW at p
  split at p
  · cases rx; cases ry
    split at p
    · rename_i h
      exact ⟨_, _, rfl, rfl, hc _ _ h, p H ρ _ (Evo.refl ..) S (hr ..)⟩
    · exact p.elim
  · exact p.elim
def int0 (g : Int → Int → W) (x y : W) (s : Sto) : R W := match x, y with
  | .int i, .int j => .ok (g i j) s
  | _, _ => .no
theorem om_rI0 {gV : Int → Int → V} {g : Int → Int → W} (hr : ∀ H ρ st i j, Rep C.K H ρ st (gV i j) (g i j)) : OpM C E (rI0 gV) (int0 g) := by
  intro H ρ st v u x y Q S rx ry p
  unfold int0 at p
  split at p
  · cases rx; cases ry
    exact ⟨_, _, rfl, rfl, p H ρ _ (Evo.refl ..) S (hr ..)⟩
  · exact p.elim
abbrev subW := int0 fun i j => .int (i - j)
theorem om_sub : OpM C E (rI0 fun i j => .int (i - j)) subW := om_rI0 fun _ _ _ _ _ => .int _
def mulOk (i j : Int) : Bool := ck ((-(2 ^ 64) < i ∧ i < 2 ^ 64) ∨ (-(2 ^ 64) < j ∧ j < 2 ^ 64))
theorem mulOk_ok {i j : Int} (h : mulOk i j = true) : CMul i j := by
  unfold mulOk at h
  rw [ck_iff] at h
  exact h
/-- a product: two ints; a list some times -/
def mulW (x y : W) (s : Sto) : R W := match x, y with
  | .int i, .int j => if mulOk i j = true then .ok (.int (i * j)) s else .no
  | x, .int k => match lstOf s x with
    | some xs => if ck (-(2 ^ 63) ≤ k ∧ k < 2 ^ 63 ∧ xs.length * k.toNat ≤ 10000000) = true then .ok (.fl (List.replicate k.toNat xs).flatten) s else .no
    | none => .no
  | _, _ => .no
theorem RepL.rep {H : Hp} {ρ : Pl} {st : Sto} {vs : List V} {ws : List W} (r : RepL C.K H ρ st vs ws) : ∀ k : Nat, RepL C.K H ρ st (List.replicate k vs).flatten (List.replicate k ws).flatten
  | 0 => .nil
  | k + 1 => by
    rw [List.replicate_succ, List.flatten_cons, List.replicate_succ, List.flatten_cons]
    exact r.append (RepL.rep r k)
def rMulU : R2 := fun x y H Q => rI CMul (fun i j => .int (i * j)) x y H Q ∨ rRep x y H Q
theorem or_mul : OpR X (binaryOp .Mult) rMulU := op_mul.or op_rep
theorem om_mul : OpM C E rMulU mulW := by
  intro H ρ st v u x y Q S rx ry p
  unfold mulW at p
  split at p
  · cases rx; cases ry
    split at p
    · rename_i h
      exact .inl ⟨_, _, rfl, rfl, mulOk_ok h, p H ρ _ (Evo.refl ..) S (.int _)⟩
    · exact p.elim
  · split at p
    · rename_i e
      obtain ⟨a, vs, rfl, h1, r1⟩ := lstOf_rep S rx e
      cases ry
      split at p
      · rename_i h
        have h := ck_iff.mp h
        refine .inr ⟨_, _, _, rfl, rfl, h1, h.1, h.2.1, by rw [r1.length]; exact szL h.2.2, fun q hq => ?_⟩
        exact p _ ρ _ (Evo.laid hq) (S.laid hq) (fl_new S hq (r1.rep _))
      · exact p.elim
    · exact p.elim
  · exact p.elim
abbrev fdivW := intW (fun _ j => ck (0 < j ∧ j < 1073741824)) fun i j => .int (i / j)
theorem om_fdiv : OpM C E (rI CDiv fun i j => .int (i / j)) fdivW := om_rI (fun i j h => ck_iff.mp h) fun _ _ _ _ _ => .int _
abbrev modW := intW (fun _ j => ck (0 < j)) fun i j => .int (i % j)
theorem om_mod : OpM C E (rI (fun _ j => 0 < j) fun i j => .int (i % j)) modW := om_rI (fun _ _ h => ck_iff.mp h) fun _ _ _ _ _ => .int _
abbrev shrW := intW (fun _ j => ck (0 ≤ j)) fun i j => .int (i / 2 ^ j.toNat)
theorem om_shr : OpM C E (rI (fun _ j => 0 ≤ j) fun i j => .int (i / 2 ^ j.toNat)) shrW := om_rI (fun _ _ h => ck_iff.mp h) fun _ _ _ _ _ => .int _
abbrev andW := int0 fun i j => .int (Builtin.bitAnd i j)
theorem om_and : OpM C E (rI0 fun i j => .int (Builtin.bitAnd i j)) andW := om_rI0 fun _ _ _ _ _ => .int _
abbrev orW := int0 fun i j => .int (Builtin.bitOr i j)
theorem om_or : OpM C E (rI0 fun i j => .int (Builtin.bitOr i j)) orW := om_rI0 fun _ _ _ _ _ => .int _
abbrev ltW := int0 fun i j => .bl (decide (i < j))
theorem om_lt : OpM C E (rI0 fun i j => .bl (decide (i < j))) ltW := om_rI0 fun _ _ _ _ _ => .bl _
abbrev leW := int0 fun i j => .bl (decide (i ≤ j))
theorem om_le : OpM C E (rI0 fun i j => .bl (decide (i ≤ j))) leW := om_rI0 fun _ _ _ _ _ => .bl _
abbrev gtW := int0 fun i j => .bl (decide (j < i))
theorem om_gt : OpM C E (rI0 fun i j => .bl (decide (j < i))) gtW := om_rI0 fun _ _ _ _ _ => .bl _
abbrev geW := int0 fun i j => .bl (decide (j ≤ i))
theorem om_ge : OpM C E (rI0 fun i j => .bl (decide (j ≤ i))) geW := om_rI0 fun _ _ _ _ _ => .bl _
/-- unary -/
def UnM (C : MC) (E : XK) (r : V → Hp → VK → Prop) (f : W → Sto → R W) : Prop := ∀ (H : Hp) (ρ : Pl) (st : Sto) (v : V) (x : W) (Q : VK),
  RelS C H ρ st → Rep C.K H ρ st v x → Post (relW C) C E H ρ st (f x st) Q → r v H Q
theorem tUn_of {r : V → Hp → VK → Prop} {f : W → Sto → R W} (hf : UnM C E r f) {σ : St} {H : Hp} {Q : VK} (h : tM C E (un f ma) σ H Q) : tUn r (tM C E ma) σ H Q := by
  obtain ⟨ρ, st, env, re, S, p⟩ := h
  exact ⟨ρ, st, env, re, S, Post.bind p fun x s1 H1 ρ1 v _ e1 S1 r1 p1 => hf H1 ρ1 s1 v x Q S1 r1 p1⟩
def negW (x : W) (s : Sto) : R W := match x with
  | .int i => .ok (.int (-i)) s
  | _ => .no
theorem om_neg : UnM C E (rU fun i => .int (-i)) negW := by
  intro H ρ st v x Q S rx p
  unfold negW at p
  split at p
  · cases rx; exact ⟨_, rfl, p H ρ _ (Evo.refl ..) S (.int _)⟩
  · exact p.elim
theorem me_neg (ha : ME X C E a ma) : ME X C E (.UnaryOp .USub a pos) (un negW ma) := PE.imp (pe_un un_neg ha) fun _ _ _ h => tUn_of om_neg h

/-! ### equality -/
mutual
def datW : W → Option PyData
  | .non => some .none
  | .bl b => some (.bool b)
  | .int i => some (.int i)
  | .str x => some (.str x)
  | .tup ws => (datL ws).map .tuple
  | .fl ws => (datL ws).map .list
  | .kl ws => (datL ws).map .list
  | .raw _ => none
  | .loc _ => none
def datL : List W → Option (List PyData)
  | [] => some []
  | w :: ws => match datW w, datL ws with
    | some d, some ds => some (d :: ds)
    | _, _ => none
end
/-- a list that can be changed counts with what it holds now; what it holds: lists again, to a depth -/
def datS (s : Sto) : Nat → W → Option PyData
  | 0, w => datW w
  | n + 1, w => match lstOf s w with
    | some ws => ((ws.mapM (datS s n)).map .list)
    | none => datW w
theorem datW_rep {H : Hp} {ρ : Pl} {st : Sto} : (∀ (w : W) (v : V) (d : PyData), Rep C.K H ρ st v w → datW w = some d → Dp C.K H v d) := by
  intro w
  refine W.rec (motive_1 := fun w => ∀ (v : V) (d : PyData), Rep C.K H ρ st v w → datW w = some d → Dp C.K H v d) (motive_2 := fun ws => ∀ (vs : List V) (ds : List PyData), RepL C.K H ρ st vs ws → datL ws = some ds → DpAll C.K H vs ds)
    ?_ ?_ ?_ ?_ ?_ ?_ ?_ ?_ ?_ ?_ ?_ w
  · intro v d r h; cases r; simp [datW] at h; subst h; exact .non
  · intro b v d r h; cases r; simp [datW] at h; subst h; exact .bl b
  · intro b v d r h; cases r; simp [datW] at h; subst h; exact .int b
  · intro b v d r h; cases r; simp [datW] at h; subst h; exact .str b
  · intro b v d r h; simp [datW] at h
  · intro ws ih v d r h
    cases r with
    | tup h1 h2 =>
      simp only [datW, Option.map_eq_some_iff] at h
      obtain ⟨ds, e, rfl⟩ := h
      exact .tup h1 (ih _ _ h2 e)
  · intro ws ih v d r h
    cases r with
    | fl h1 _ h2 =>
      simp only [datW, Option.map_eq_some_iff] at h
      obtain ⟨ds, e, rfl⟩ := h
      exact .lst (SqL.of h1) (ih _ _ h2 e)
  · intro ws ih v d r h
    cases r with
    | kl h1 h2 =>
      simp only [datW, Option.map_eq_some_iff] at h
      obtain ⟨ds, e, rfl⟩ := h
      exact .lst h1.seq (ih _ _ h2 e)
  · intro l v d r h; simp [datW] at h
  · intro vs ds r h; cases r; simp [datL] at h; subst h; exact .nil
  · intro w ws ih1 ih2 vs ds r h
    cases r with
    | cons h1 h2 =>
      simp only [datL] at h
      split at h
      · rename_i d ds' e1 e2
        cases h
        exact .cons (ih1 _ _ h1 e1) (ih2 _ _ h2 e2)
      · cases h
theorem datS_rep {H : Hp} {ρ : Pl} {st : Sto} (S : RelS C H ρ st) : ∀ (n : Nat) (w : W) (v : V) (d : PyData), Rep C.K H ρ st v w → datS st n w = some d → Dp C.K H v d
  | 0, w, v, d, r, h => datW_rep w v d r h
  | n + 1, w, v, d, r, h => by
    unfold datS at h
    split at h
    · rename_i ws e
      obtain ⟨a, vs, rfl, h1, r1⟩ := lstOf_rep S r e
      simp only [Option.map_eq_some_iff] at h
      obtain ⟨ds, e2, rfl⟩ := h
      refine .lst (SqL.of h1) ?_
      clear r h1 e
      induction ws generalizing vs ds with
      | nil => cases r1; simp at e2; subst e2; exact .nil
      | cons w ws ih =>
        cases r1 with
        | cons q1 q2 =>
          rw [List.mapM_cons] at e2
          cases e3 : datS st n w with
          | none => rw [e3] at e2; simp at e2
          | some d =>
            rw [e3] at e2
            cases e4 : ws.mapM (datS st n) with
            | none => rw [e4] at e2; simp at e2
            | some ds' =>
              rw [e4] at e2
              simp at e2
              subst e2
              exact .cons (datS_rep S n w _ d q1 e3) (ih _ q2 _ e4)
    · exact datW_rep w v d r h
def eqW (x y : W) (s : Sto) : R W := match datS s 3 x, datS s 3 y with
  | some d, some e => if SeqAt.shaped d = true ∧ SeqAt.shaped e = true then .ok (.bl (PyData.eqv d e)) s else .no
  | _, _ => .no
def neW (x y : W) (s : Sto) : R W := match datS s 3 x, datS s 3 y with
  | some d, some e => if SeqAt.shaped d = true ∧ SeqAt.shaped e = true then .ok (.bl (!PyData.eqv d e)) s else .no
  | _, _ => .no
theorem om_eq : OpM C E (rEqD C.K) eqW := by
  intro H ρ st v u x y Q S rx ry p
  unfold eqW at p
  split at p
  · rename_i d e hd he
    split at p
    · rename_i h
      exact ⟨d, e, datS_rep S 3 x v d rx hd, datS_rep S 3 y u e ry he, h.1, h.2, p H ρ _ (Evo.refl ..) S (.bl _)⟩
    · exact p.elim
  · exact p.elim
theorem om_ne : OpM C E (rNeD C.K) neW := by
  intro H ρ st v u x y Q S rx ry p
  unfold neW at p
  split at p
  · rename_i d e hd he
    split at p
    · rename_i h
      exact ⟨d, e, datS_rep S 3 x v d rx hd, datS_rep S 3 y u e ry he, h.1, h.2, p H ρ _ (Evo.refl ..) S (.bl _)⟩
    · exact p.elim
  · exact p.elim
/-- in, not in: flat items -/
def flatW : W → Bool
  | .non => true | .bl _ => true | .int _ => true | .str _ => true | _ => false
def veqW : W → W → Bool
  | .non, .non => true
  | .bl a, .bl b => a == b
  | .int i, .int j => i == j
  | .bl a, .int i => (if a then (1 : Int) else 0) == i
  | .int i, .bl a => i == (if a then (1 : Int) else 0)
  | .str x, .str y => x == y
  | _, _ => false
theorem flat_of {H : Hp} {ρ : Pl} {st : Sto} {v : V} {w : W} (r : Rep C.K H ρ st v w) (f : flatW w = true) : flatV v = true := by
  cases r with
  | non => rfl
  | bl b => rfl
  | int b => rfl
  | str b => rfl
  | _ => simp [flatW] at f
def inW (x y : W) (s : Sto) : R W := match seqOf s y with
  | some ys => if flatW x = true ∧ ys.all flatW = true then .ok (.bl (ys.any fun z => veqW z x)) s else .no
  | none => .no
def ninW (x y : W) (s : Sto) : R W := match seqOf s y with
  | some ys => if flatW x = true ∧ ys.all flatW = true then .ok (.bl (!(ys.any fun z => veqW z x))) s else .no
  | none => .no
theorem veq_of {H : Hp} {ρ : Pl} {st : Sto} {v u : V} {x y : W} (rx : Rep C.K H ρ st v x) (ry : Rep C.K H ρ st u y) (fx : flatW x = true) (fy : flatW y = true) : eqV v u = veqW x y := by
  cases rx <;> first | (simp [flatW] at fx; done) | (cases ry <;> first | (simp [flatW] at fy; done) | rfl)
theorem inV_of {H : Hp} {ρ : Pl} {st : Sto} {v : V} {x : W} (rx : Rep C.K H ρ st v x) (fx : flatW x = true) : ∀ {vs : List V} {ys : List W}, RepL C.K H ρ st vs ys → ys.all flatW = true → vs.all flatV = true ∧ inV v vs = ys.any fun z => veqW z x
  | _, _, .nil, _ => ⟨rfl, rfl⟩
  | _, _, .cons h r, f => by
    rw [List.all_cons, Bool.and_eq_true] at f
    obtain ⟨h1, h2⟩ := inV_of rx fx r f.2
    refine ⟨by rw [List.all_cons, flat_of h f.1, h1]; rfl, ?_⟩
    unfold inV at h2 ⊢
    rw [List.any_cons, List.any_cons, h2, veq_of h rx f.1 fx]
theorem om_in : OpM C E (rIn C.K false) inW := by
  intro H ρ st v u x y Q S rx ry p
  unfold inW at p
  split at p
  · rename_i ys e
    split at p
    · rename_i h
      obtain ⟨a, vs, rfl, q, r⟩ := seqOf_rep S ry e
      obtain ⟨h1, h2⟩ := inV_of rx h.1 r h.2
      refine ⟨a, vs, rfl, q, flat_of rx h.1, h1, ?_⟩
      rw [h2]
      exact p H ρ _ (Evo.refl ..) S (.bl _)
    · exact p.elim
  · exact p.elim
theorem om_nin : OpM C E (rIn C.K true) ninW := by
  intro H ρ st v u x y Q S rx ry p
  unfold ninW at p
  split at p
  · rename_i ys e
    split at p
    · rename_i h
      obtain ⟨a, vs, rfl, q, r⟩ := seqOf_rep S ry e
      obtain ⟨h1, h2⟩ := inV_of rx h.1 r h.2
      refine ⟨a, vs, rfl, q, flat_of rx h.1, h1, ?_⟩
      rw [h2]
      exact p H ρ _ (Evo.refl ..) S (.bl _)
    · exact p.elim
  · exact p.elim
end
end ML

/-! ML3: tests, displays, built-ins, items, slices, methods, fields -/
namespace ML
open PySem L2
noncomputable section
variable {X : Cx} {C : MC} {E : XK} {a b c e o : Expr} {ma mb mc mo : Ex} {pos : Pos}

/-! ### and, or, not -/
def andE (a b : Ex) : Ex := fun env st => (a env st).bind fun x s1 => x.cb fun k => if k = true then b env s1 else .ok (.bl false) s1
def orE (a b : Ex) : Ex := fun env st => (a env st).bind fun x s1 => x.cb fun k => if k = true then .ok (.bl true) s1 else b env s1
def notW (x : W) (s : Sto) : R W := match x with
  | .bl k => .ok (.bl (!k)) s
  | _ => .no
theorem me_one {op} (h : ME X C E a ma) : ME X C E (.BoolOp op [a] pos) ma := pe_one h
theorem me_and {rest : List Expr} (ha : ME X C E a ma) (hb : ME X C E (.BoolOp .And (b :: rest) pos) mb) : ME X C E (.BoolOp .And (a :: b :: rest) pos) (andE ma mb) := by
  refine PE.imp (pe_and ha hb) fun σ H Q ⟨ρ, st, env, re, S, p⟩ => ⟨ρ, st, env, re, S, Post.bind p fun x s1 H1 ρ1 v _ e1 S1 r1 p1 => ?_⟩
  cases x with
  | bl k =>
    cases r1
    refine ⟨k, rfl, ?_⟩
    cases k with
    | true => exact (if_pos rfl).mpr ⟨ρ1, s1, env, re.evo e1 S.liv, S1, p1⟩
    | false => exact (if_neg (by decide)).mpr (p1 H1 ρ1 _ (Evo.refl ..) S1 (.bl false))
  | _ => exact p1.elim
theorem me_or {rest : List Expr} (ha : ME X C E a ma) (hb : ME X C E (.BoolOp .Or (b :: rest) pos) mb) : ME X C E (.BoolOp .Or (a :: b :: rest) pos) (orE ma mb) := by
  refine PE.imp (pe_or ha hb) fun σ H Q ⟨ρ, st, env, re, S, p⟩ => ⟨ρ, st, env, re, S, Post.bind p fun x s1 H1 ρ1 v _ e1 S1 r1 p1 => ?_⟩
  cases x with
  | bl k =>
    cases r1
    refine ⟨k, rfl, ?_⟩
    cases k with
    | true => exact (if_pos rfl).mpr (p1 H1 ρ1 _ (Evo.refl ..) S1 (.bl true))
    | false => exact (if_neg (by decide)).mpr ⟨ρ1, s1, env, re.evo e1 S.liv, S1, p1⟩
  | _ => exact p1.elim
theorem me_not (ha : ME X C E a ma) : ME X C E (.UnaryOp .Not a pos) (un notW ma) := by
  refine PE.imp (pe_not ha) fun σ H Q ⟨ρ, st, env, re, S, p⟩ => ⟨ρ, st, env, re, S, Post.bind p fun x s1 H1 ρ1 v _ e1 S1 r1 p1 => ?_⟩
  cases x with
  | bl k => cases r1; exact ⟨k, rfl, p1 H1 ρ1 _ (Evo.refl ..) S1 (.bl _)⟩
  | _ => exact p1.elim
def andB (a b : Bx) : Bx := fun env st => (a env st).bind fun k s1 => if k = true then b env s1 else .ok false s1
def orB (a b : Bx) : Bx := fun env st => (a env st).bind fun k s1 => if k = true then .ok true s1 else b env s1
def notB (a : Bx) : Bx := fun env st => (a env st).bind fun k s1 => .ok (!k) s1
variable {ka kb : Bx}
theorem mw_and1 (ha : MT X C E a ka) : MW X C E (.BoolOp .And [a] pos) ka := pw_and1 ha
theorem mw_or1 (ha : MT X C E a ka) : MW X C E (.BoolOp .Or [a] pos) ka := pw_or1 ha
theorem mt_w (h : MW X C E a ka) : MT X C E a ka := PW.pt h
theorem mw_and {rest : List Expr} (ha : MT X C E a ka) (hb : MW X C E (.BoolOp .And (b :: rest) pos) kb) : MW X C E (.BoolOp .And (a :: b :: rest) pos) (andB ka kb) := by
  refine PW.imp (pw_and ha hb) fun σ H Q ⟨ρ, st, env, re, S, p⟩ => ⟨ρ, st, env, re, S, Post.bind (rel := relB) p fun x s1 H1 ρ1 v _ e1 S1 r1 p1 => ?_⟩
  have r1 : v = x := r1
  subst r1
  cases v with
  | true => exact (if_pos rfl).mpr ⟨ρ1, s1, env, re.evo e1 S.liv, S1, p1⟩
  | false => exact (if_neg (by decide)).mpr (p1 H1 ρ1 _ (Evo.refl ..) S1 rfl)
theorem mw_or {rest : List Expr} (ha : MT X C E a ka) (hb : MW X C E (.BoolOp .Or (b :: rest) pos) kb) : MW X C E (.BoolOp .Or (a :: b :: rest) pos) (orB ka kb) := by
  refine PW.imp (pw_or ha hb) fun σ H Q ⟨ρ, st, env, re, S, p⟩ => ⟨ρ, st, env, re, S, Post.bind (rel := relB) p fun x s1 H1 ρ1 v _ e1 S1 r1 p1 => ?_⟩
  have r1 : v = x := r1
  subst r1
  cases v with
  | true => exact (if_pos rfl).mpr (p1 H1 ρ1 _ (Evo.refl ..) S1 rfl)
  | false => exact (if_neg (by decide)).mpr ⟨ρ1, s1, env, re.evo e1 S.liv, S1, p1⟩
theorem mt_not (ha : MT X C E a ka) : MT X C E (.UnaryOp .Not a pos) (notB ka) := by
  refine PT.imp (pt_not ha) fun σ H Q ⟨ρ, st, env, re, S, p⟩ => ⟨ρ, st, env, re, S, Post.bind (rel := relB) p fun x s1 H1 ρ1 v _ e1 S1 r1 p1 => ?_⟩
  have r1 : v = x := r1
  subst r1
  exact p1 H1 ρ1 _ (Evo.refl ..) S1 rfl
def ifE (k : Bx) (a b : Ex) : Ex := fun env st => (k env st).bind fun k s1 => if k = true then a env s1 else b env s1
theorem me_if (hc : MT X C E c ka) (ha : ME X C E a ma) (hb : ME X C E b mb) : ME X C E (.IfExp c a b pos) (ifE ka ma mb) := by
  refine PE.imp (pe_ifExp hc ha hb) fun σ H Q ⟨ρ, st, env, re, S, p⟩ => ⟨ρ, st, env, re, S, Post.bind (rel := relB) p fun x s1 H1 ρ1 v _ e1 S1 r1 p1 => ?_⟩
  have r1 : v = x := r1
  subst r1
  cases v with
  | true => exact (if_pos rfl).mpr ⟨ρ1, s1, env, re.evo e1 S.liv, S1, p1⟩
  | false => exact (if_neg (by decide)).mpr ⟨ρ1, s1, env, re.evo e1 S.liv, S1, p1⟩
/-- the truth of a value of any kind -/
def truW (s : Sto) (w : W) : Option Bool := match w with
  | .non => some false
  | .bl b => some b
  | .int i => some (i != 0)
  | w => match seqOf s w with
    | some ws => some (!ws.isEmpty)
    | none => match w with
      | .loc l => match s[l]? with
        | some (.dct kvs) => some (!kvs.isEmpty)
        | _ => none
      | _ => none
theorem RepL.isEmpty {K : PySem.W.Frag} {H : Hp} {ρ : Pl} {st : Sto} {vs : List V} {ws : List W} (r : RepL K H ρ st vs ws) : vs.isEmpty = ws.isEmpty := by cases r <;> rfl
theorem RepK.isEmpty {K : PySem.W.Frag} {H : Hp} {ρ : Pl} {st : Sto} : ∀ {vs : List (Key × V)} {ws : List (Key × W)}, RepK K H ρ st vs ws → vs.isEmpty = ws.isEmpty
  | [], [], _ => rfl
  | _ :: _, _ :: _, _ => rfl
  | [], _ :: _, h => h.elim
  | _ :: _, [], h => h.elim
def trB (a : Ex) : Bx := fun env st => (a env st).bind fun x s1 => match truW s1 x with
  | some k => .ok k s1
  | none => .no
theorem truW_rep {H : Hp} {ρ : Pl} {st : Sto} {v : V} {w : W} {k : Bool} (S : RelS C H ρ st) (r : Rep C.K H ρ st v w) (h : truW st w = some k) : TruV C.K v H k := by
  have sq : ∀ ws, seqOf st w = some ws → k = !ws.isEmpty → TruV C.K v H k := fun ws e hk => by
    obtain ⟨a, vs, rfl, q, r⟩ := seqOf_rep S r e
    rw [← r.isEmpty] at hk
    rcases q with q | q
    · exact .inl ⟨vs, q, hk⟩
    · exact .inr (.inl ⟨vs, q, hk⟩)
  unfold truW at h
  cases w with
  | non => cases r; cases h; rfl
  | bl b => cases r; cases h; rfl
  | int i => cases r; cases h; rfl
  | str x => simp [seqOf, lstOf] at h
  | raw x => simp [seqOf, lstOf] at h
  | tup ws => exact sq ws rfl (by simpa [seqOf] using h.symm)
  | fl ws => exact sq ws rfl (by simpa [seqOf, lstOf] using h.symm)
  | kl ws => exact sq ws rfl (by simpa [seqOf] using h.symm)
  | loc l =>
    simp only at h
    split at h
    · rename_i ws e
      exact sq ws e (by simpa using h.symm)
    · split at h
      · rename_i kvs e
        cases r with
        | loc r =>
          obtain ⟨vs, q, r⟩ := S.obj l _ _ r e
          exact .inr (.inr ⟨vs, q, by rw [RepK.isEmpty r]; simpa using h.symm⟩)
      · cases h
theorem mt_truth (hK : C.K = X.K) (ha : ME X C E a ma) (he : ∀ whole, isTrue a X.env whole = (do let v ← whole; standAt a.pos; holding [v] (truthy v)) := by intro _; rfl) : MT X C E a (trB ma) := by
  refine PT.imp (pt_truth ha he) fun σ H Q ⟨ρ, st, env, re, S, p⟩ => ⟨ρ, st, env, re, S, Post.bind p fun x s1 H1 ρ1 v _ e1 S1 r1 p1 => ?_⟩
  split at p1
  · rename_i k e
    exact ⟨k, hK ▸ truW_rep S1 r1 e, p1 H1 ρ1 _ (Evo.refl ..) S1 rfl⟩
  · exact p1.elim
/-- is None, is not None -/
def isnW (x : W) (s : Sto) : R W := match x with
  | .non => .ok (.bl true) s
  | .raw _ => .no
  | _ => .ok (.bl false) s
def nonW (x : W) (s : Sto) : R W := match x with
  | .non => .ok (.bl false) s
  | .raw _ => .no
  | _ => .ok (.bl true) s
theorem me_isN {j pos'} (ha : ME X C E a ma) : ME X C E (.Compare a [.Is] [.Constant .none j pos'] pos) (un isnW ma) := by
  refine PE.imp (pe_cmp (pc_isN ha) rfl) fun σ H Q ⟨ρ, st, env, re, S, p⟩ => ⟨ρ, st, env, re, S, Post.bind p fun x s1 H1 ρ1 v _ e1 S1 r1 p1 => ?_⟩
  cases r1 <;> first | exact p1.elim | exact p1 H1 ρ1 _ (Evo.refl ..) S1 (.bl _)
theorem me_notN {j pos'} (ha : ME X C E a ma) : ME X C E (.Compare a [.IsNot] [.Constant .none j pos'] pos) (un nonW ma) := by
  refine PE.imp (pe_cmp (pc_notN ha) rfl) fun σ H Q ⟨ρ, st, env, re, S, p⟩ => ⟨ρ, st, env, re, S, Post.bind p fun x s1 H1 ρ1 v _ e1 S1 r1 p1 => ?_⟩
  cases r1 <;> first | exact p1.elim | exact p1 H1 ρ1 _ (Evo.refl ..) S1 (.bl _)

/-! ### argument lists, displays -/
structure MA' (X : Cx) (C : MC) (E : XK) (es : List Expr) (m : Ax) : Prop where
  pa : PA X es (tMA C E m)
  ln : ∀ env st ws st', m env st = .ok ws st' → ws.length = es.length
def axn : Ax := fun _ st => .ok [] st
def axc (a : Ex) (r : Ax) : Ax := fun env st => (a env st).bind fun x s1 => (r env s1).bind fun xs s2 => .ok (x :: xs) s2
theorem ma_nil : MA' X C E [] axn := by
  refine ⟨PA.imp pa_nil fun σ H Q ⟨ρ, st, env, re, S, p⟩ => p H ρ [] (Evo.refl ..) S .nil, fun env st ws st' h => ?_⟩
  cases h
  rfl
theorem ma_cons {es : List Expr} {mr : Ax} (ha : ME X C E a ma) (hr : MA' X C E es mr) (hs : starEach (a :: es) X.env = (false, eval a X.env) :: starEach es X.env := by rfl) : MA' X C E (a :: es) (axc ma mr) := by
  refine ⟨PA.imp (pa_cons ha hr.pa hs) fun σ H Q ⟨ρ, st, env, re, S, p⟩ => ⟨ρ, st, env, re, S, Post.bind p fun x s1 H1 ρ1 v _ e1 S1 r1 p1 => ?_⟩, fun env st ws st' h => ?_⟩
  · refine ⟨ρ1, s1, env, re.evo e1 S.liv, S1, Post.bind p1 fun xs s2 H2 ρ2 vs _ e2 S2 r2 p2 => ?_⟩
    exact p2 H2 ρ2 _ (Evo.refl ..) S2 (.cons (r1.evo e2 S1.liv) r2)
  · unfold axc at h
    cases h1 : ma env st with
    | ok x s1 =>
      rw [h1, R.bind_ok] at h
      cases h2 : mr env s1 with
      | ok xs s2 =>
        rw [h2, R.bind_ok] at h
        cases h
        exact congrArg (· + 1) (hr.ln _ _ _ _ h2)
      | _ => rw [h2] at h; cases h
    | _ => rw [h1] at h; cases h
variable {es : List Expr} {mr : Ax}
def tupE (m : Ax) : Ex := fun env st => (m env st).bind fun ws s => .ok (.tup ws) s
def flE (m : Ax) : Ex := fun env st => (m env st).bind fun ws s => .ok (.fl ws) s
def lsE (m : Ax) : Ex := fun env st => (m env st).bind fun ws s => .ok (.loc s.length) (s ++ [.lst ws])
theorem me_tup {x1} (h : MA' X C E es mr) (hl : es.length ≤ 1000 := by decide) : ME X C E (.Tuple es x1 pos) (tupE mr) := by
  refine PE.imp (pe_tup h.pa) fun σ H Q ⟨ρ, st, env, re, S, p⟩ => ⟨ρ, st, env, re, S, Post.bind p fun x s1 H1 ρ1 v hx e1 S1 r1 p1 => ⟨?_, fun q hq => ?_⟩⟩
  · rw [r1.length, h.ln _ _ _ _ hx]
    exact Nat.le_trans hl (by decide)
  · exact p1 _ ρ1 _ (Evo.laid hq) (S1.laid hq) (tup_new S1 hq r1)
theorem me_fl (h : MA' X C E es mr) (hl : es.length ≤ 1000 := by decide) : ME X C E (.List es pos) (flE mr) := by
  refine PE.imp (pe_lst h.pa) fun σ H Q ⟨ρ, st, env, re, S, p⟩ => ⟨ρ, st, env, re, S, Post.bind p fun x s1 H1 ρ1 v hx e1 S1 r1 p1 => ⟨?_, fun q hq => ?_⟩⟩
  · rw [r1.length, h.ln _ _ _ _ hx]
    exact Nat.le_trans hl (by decide)
  · exact p1 _ ρ1 _ (Evo.laid hq) (S1.laid hq) (fl_new S1 hq r1)
theorem me_ls (h : MA' X C E es mr) (hl : es.length ≤ 1000 := by decide) : ME X C E (.List es pos) (lsE mr) := by
  refine PE.imp (pe_lst h.pa) fun σ H Q ⟨ρ, st, env, re, S, p⟩ => ⟨ρ, st, env, re, S, Post.bind p fun x s1 H1 ρ1 v hx e1 S1 r1 p1 => ⟨?_, fun q hq => ?_⟩⟩
  · rw [r1.length, h.ln _ _ _ _ hx]
    exact Nat.le_trans hl (by decide)
  · exact p1 _ (ρ1.add q) _ (Evo.push hq) (lst_push S1 hq r1) (loc_new S1)

/-! ### built-ins by their values -/
def ClM (C : MC) (E : XK) (r : List V → Hp → VK → Prop) (f : List W → Sto → R W) : Prop := ∀ (H : Hp) (ρ : Pl) (st : Sto) (vs : List V) (ws : List W) (Q : VK),
  RelS C H ρ st → RepL C.K H ρ st vs ws → Post (relW C) C E H ρ st (f ws st) Q → r vs H Q
def clE (f : List W → Sto → R W) (m : Ax) : Ex := fun env st => (m env st).bind fun ws s => f ws s
theorem tCB_of {r : List V → Hp → VK → Prop} {f : List W → Sto → R W} (hf : ClM C E r f) {σ : St} {H : Hp} {Q : VK} (h : tM C E (clE f mr) σ H Q) : tCB r (tMA C E mr) σ H Q := by
  obtain ⟨ρ, st, env, re, S, p⟩ := h
  exact ⟨ρ, st, env, re, S, Post.bind p fun x s1 H1 ρ1 v _ e1 S1 r1 p1 => hf H1 ρ1 s1 v x Q S1 r1 p1⟩
section
variable {x : Str} {p : Pos} {id T : String} {r : List V → Hp → VK → Prop} {f : List W → Sto → R W}
theorem me_callB (hc : CallR X (.builtin id) r) (hf : ClM C E r f) (hg : Gl X x) (hm : X.mg x = none) (hv : bootBuiltins x = some (.builtin id)) (ha : MA' X C E (e :: es) mr) (hn : x ≠ "__name__" := by decide) (hdb : (x == ("__debug__" : Str)) = false := by decide)
    (he : starEach (e :: es) X.env = (false, eval e X.env) :: starEach es X.env := by rfl) (hpl : (backTo pos (starEach es X.env)).any (·.1) = false := by rfl) : ME X C E (.Call (.Name x p) (e :: es) [] pos) (clE f mr) :=
  PE.imp (pe_callB hc hg hm hv ha.pa hn hdb he hpl) fun _ _ _ h => tCB_of hf h
theorem me_callTy (hc : CallR X (.type T) r) (hf : ClM C E r f) (hg : Gl X x) (hm : X.mg x = none) (hv : bootBuiltins x = some (.type T)) (ha : MA' X C E (e :: es) mr) (hn : x ≠ "__name__" := by decide) (hdb : (x == ("__debug__" : Str)) = false := by decide)
    (he : starEach (e :: es) X.env = (false, eval e X.env) :: starEach es X.env := by rfl) (hpl : (backTo pos (starEach es X.env)).any (·.1) = false := by rfl) : ME X C E (.Call (.Name x p) (e :: es) [] pos) (clE f mr) :=
  PE.imp (pe_callTy hc hg hm hv ha.pa hn hdb he hpl) fun _ _ _ h => tCB_of hf h
end
def lenF (ws : List W) (s : Sto) : R W := match ws with
  | [w] => match seqOf s w with
    | some xs => .ok (.int xs.length) s
    | none => .no
  | _ => .no
theorem cm_len : ClM C E (fun xs H Q => ∃ p ys, xs = [.ref p] ∧ (SqL C.K H p ys ∨ SqT C.K H p ys) ∧ Q (.int ys.length) H) lenF := by
  intro H ρ st vs ws Q S rs p
  unfold lenF at p
  split at p
  · obtain ⟨v, rfl, r⟩ := rs.one
    split at p
    · rename_i xs e
      obtain ⟨a, us, rfl, q, r⟩ := seqOf_rep S r e
      refine ⟨a, us, rfl, q, ?_⟩
      rw [r.length]
      exact p H ρ _ (Evo.refl ..) S (.int _)
    · exact p.elim
  · exact p.elim
def absF (ws : List W) (s : Sto) : R W := match ws with
  | [.int i] => .ok (.int (if i < 0 then -i else i)) s
  | _ => .no
theorem cm_abs : ClM C E (fun xs H Q => ∃ i, xs = [.int i] ∧ Q (.int (if i < 0 then -i else i)) H) absF := by
  intro H ρ st vs ws Q S rs p
  unfold absF at p
  split at p
  · obtain ⟨v, rfl, r⟩ := rs.one
    cases r
    exact ⟨_, rfl, p H ρ _ (Evo.refl ..) S (.int _)⟩
  · exact p.elim
def intF (ws : List W) (s : Sto) : R W := match ws with
  | [.int i] => .ok (.int i) s
  | [.bl k] => .ok (.int (if k then 1 else 0)) s
  | _ => .no
theorem cm_int : ClM C E (fun xs H Q => (∃ i, xs = [.int i] ∧ Q (.int i) H) ∨ ∃ k, xs = [.bl k] ∧ Q (.int (if k then 1 else 0)) H) intF := by
  intro H ρ st vs ws Q S rs p
  unfold intF at p
  split at p
  · obtain ⟨v, rfl, r⟩ := rs.one
    cases r
    exact .inl ⟨_, rfl, p H ρ _ (Evo.refl ..) S (.int _)⟩
  · obtain ⟨v, rfl, r⟩ := rs.one
    cases r
    exact .inr ⟨_, rfl, p H ρ _ (Evo.refl ..) S (.int _)⟩
  · exact p.elim
/-- the ints of a list of ints -/
def intsOf : List W → Option (List Int)
  | [] => some []
  | .int i :: ws => (intsOf ws).map (i :: ·)
  | _ :: _ => none
theorem intsOf_eq : ∀ {ws : List W} {ns : List Int}, intsOf ws = some ns → ws = ns.map W.int
  | [], ns, h => by cases h; rfl
  | w :: ws, ns, h => by
    cases w with
    | int i =>
      simp only [intsOf, Option.map_eq_some_iff] at h
      obtain ⟨ms, e, rfl⟩ := h
      rw [List.map_cons, intsOf_eq e]
    | _ => simp [intsOf] at h
@[simp] theorem intsOf_map (ns : List Int) : intsOf (ns.map W.int) = some ns := by
  induction ns with
  | nil => rfl
  | cons n ns ih => simp [intsOf, ih]
def blsOf : List W → Option (List Bool)
  | [] => some []
  | .bl i :: ws => (blsOf ws).map (i :: ·)
  | _ :: _ => none
theorem blsOf_eq : ∀ {ws : List W} {ns : List Bool}, blsOf ws = some ns → ws = ns.map W.bl
  | [], ns, h => by cases h; rfl
  | w :: ws, ns, h => by
    cases w with
    | bl i =>
      simp only [blsOf, Option.map_eq_some_iff] at h
      obtain ⟨ms, e, rfl⟩ := h
      rw [List.map_cons, blsOf_eq e]
    | _ => simp [blsOf] at h
@[simp] theorem blsOf_map (ns : List Bool) : blsOf (ns.map W.bl) = some ns := by
  induction ns with
  | nil => rfl
  | cons n ns ih => simp [blsOf, ih]
def lstK (s : Sto) (w : W) : Option (List W) := match w with
  | .kl ws => some ws
  | w => lstOf s w
theorem lstK_rep {H : Hp} {ρ : Pl} {st : Sto} {v : V} {w : W} {ws : List W} (S : RelS C H ρ st) (r : Rep C.K H ρ st v w) (h : lstK st w = some ws) : ∃ a vs, v = .ref a ∧ SqL C.K H a vs ∧ RepL C.K H ρ st vs ws := by
  cases w with
  | kl ws' => cases r with | kl h1 h2 => cases h; exact ⟨_, _, rfl, h1.seq, h2⟩
  | fl ws' => obtain ⟨a, vs, e, q, r⟩ := lstOf_rep S r (show lstOf st (.fl ws') = some ws from h); exact ⟨a, vs, e, SqL.of q, r⟩
  | loc l => obtain ⟨a, vs, e, q, r⟩ := lstOf_rep S r (show lstOf st (.loc l) = some ws from h); exact ⟨a, vs, e, SqL.of q, r⟩
  | _ => cases h
/-- all, any of a list of bools; sum of a list of ints -/
def allF (ws : List W) (s : Sto) : R W := match ws with
  | [w] => match (lstK s w).bind blsOf with
    | some bs => .ok (.bl (bs.all id)) s
    | none => .no
  | _ => .no
def anyF (ws : List W) (s : Sto) : R W := match ws with
  | [w] => match (lstK s w).bind blsOf with
    | some bs => .ok (.bl (bs.any id)) s
    | none => .no
  | _ => .no
def sumF (ws : List W) (s : Sto) : R W := match ws with
  | [w] => match (lstK s w).bind intsOf with
    | some bs => .ok (.int bs.sum) s
    | none => .no
  | _ => .no
theorem cm_all : ClM C E (rAll C.K) allF := by
  intro H ρ st vs ws Q S rs p
  unfold allF at p
  split at p
  · obtain ⟨v, rfl, r⟩ := rs.one
    split at p
    · rename_i bs e
      rw [Option.bind_eq_some_iff] at e
      obtain ⟨xs, e1, e2⟩ := e
      obtain ⟨a, us, rfl, q, r⟩ := lstK_rep S r e1
      rw [blsOf_eq e2] at r
      exact ⟨a, bs, rfl, r.bls ▸ q, p H ρ _ (Evo.refl ..) S (.bl _)⟩
    · exact p.elim
  · exact p.elim
theorem cm_any : ClM C E (rAny C.K) anyF := by
  intro H ρ st vs ws Q S rs p
  unfold anyF at p
  split at p
  · obtain ⟨v, rfl, r⟩ := rs.one
    split at p
    · rename_i bs e
      rw [Option.bind_eq_some_iff] at e
      obtain ⟨xs, e1, e2⟩ := e
      obtain ⟨a, us, rfl, q, r⟩ := lstK_rep S r e1
      rw [blsOf_eq e2] at r
      exact ⟨a, bs, rfl, r.bls ▸ q, p H ρ _ (Evo.refl ..) S (.bl _)⟩
    · exact p.elim
  · exact p.elim
theorem cm_sum : ClM C E (rSum C.K) sumF := by
  intro H ρ st vs ws Q S rs p
  unfold sumF at p
  split at p
  · obtain ⟨v, rfl, r⟩ := rs.one
    split at p
    · rename_i bs e
      rw [Option.bind_eq_some_iff] at e
      obtain ⟨xs, e1, e2⟩ := e
      obtain ⟨a, us, rfl, q, r⟩ := lstK_rep S r e1
      rw [intsOf_eq e2] at r
      exact ⟨a, bs, rfl, r.ints ▸ q, p H ρ _ (Evo.refl ..) S (.int _)⟩
    · exact p.elim
  · exact p.elim
/-- max, min: of two ints, of a list of ints -/
def maxL : List Int → Int
  | [] => 0
  | [x] => x
  | x :: y :: xs => max x (maxL (y :: xs))
def minL : List Int → Int
  | [] => 0
  | [x] => x
  | x :: y :: xs => min x (minL (y :: xs))
theorem maxL_le : ∀ {ns : List Int} {y : Int}, y ∈ ns → y ≤ maxL ns
  | [x], y, h => by simp at h; subst h; simp [maxL]
  | x :: z :: xs, y, h => by
    unfold maxL
    rcases List.mem_cons.mp h with rfl | h
    · omega
    · have := maxL_le h
      omega
theorem maxL_mem : ∀ {ns : List Int}, 0 < ns.length → maxL ns ∈ ns
  | [x], _ => by simp [maxL]
  | x :: z :: xs, _ => by
    unfold maxL
    have ih := maxL_mem (ns := z :: xs) (by simp)
    rcases Int.le_total x (maxL (z :: xs)) with h | h
    · rw [Int.max_eq_right h]; exact List.mem_cons_of_mem _ ih
    · rw [Int.max_eq_left h]; exact List.mem_cons_self
theorem minL_le : ∀ {ns : List Int} {y : Int}, y ∈ ns → minL ns ≤ y
  | [x], y, h => by simp at h; subst h; simp [minL]
  | x :: z :: xs, y, h => by
    unfold minL
    rcases List.mem_cons.mp h with rfl | h
    · omega
    · have := minL_le h
      omega
theorem minL_mem : ∀ {ns : List Int}, 0 < ns.length → minL ns ∈ ns
  | [x], _ => by simp [minL]
  | x :: z :: xs, _ => by
    unfold minL
    have ih := minL_mem (ns := z :: xs) (by simp)
    rcases Int.le_total x (minL (z :: xs)) with h | h
    · rw [Int.min_eq_left h]; exact List.mem_cons_self
    · rw [Int.min_eq_right h]; exact List.mem_cons_of_mem _ ih
def maxF (ws : List W) (s : Sto) : R W := match ws with
  | [.int i, .int j] => .ok (.int (max i j)) s
  | [w] => match (lstK s w).bind intsOf with
    | some ns => if 0 < ns.length then .ok (.int (maxL ns)) s else .no
    | none => .no
  | _ => .no
def minF (ws : List W) (s : Sto) : R W := match ws with
  | [.int i, .int j] => .ok (.int (min i j)) s
  | [w] => match (lstK s w).bind intsOf with
    | some ns => if 0 < ns.length then .ok (.int (minL ns)) s else .no
    | none => .no
  | _ => .no
def rMaxU (K : PySem.W.Frag) : List V → Hp → VK → Prop := fun xs H Q => (∃ i j, xs = [.int i, .int j] ∧ Q (.int (if j > i then j else i)) H) ∨ rMax K xs H Q
def rMinU (K : PySem.W.Frag) : List V → Hp → VK → Prop := fun xs H Q => (∃ i j, xs = [.int i, .int j] ∧ Q (.int (if j < i then j else i)) H) ∨ rMin K xs H Q
theorem cr_maxU (hc : X.calm = true) : CallR X (.builtin "max") (rMaxU X.K) := (call_max2 hc).or (cr_max hc)
theorem cr_minU (hc : X.calm = true) : CallR X (.builtin "min") (rMinU X.K) := (call_min2 hc).or (cr_min hc)
theorem cm_max : ClM C E (rMaxU C.K) maxF := by
  intro H ρ st vs ws Q S rs p
  unfold maxF at p
  split at p
  · obtain ⟨v, u, rfl, r1, r2⟩ := rs.two
    cases r1; cases r2
    rename_i i j
    refine .inl ⟨i, j, rfl, ?_⟩
    have e : (if j > i then j else i) = max i j := by split <;> omega
    rw [e]
    exact p H ρ _ (Evo.refl ..) S (.int _)
  · obtain ⟨v, rfl, r⟩ := rs.one
    split at p
    · rename_i bs e
      rw [Option.bind_eq_some_iff] at e
      obtain ⟨xs, e1, e2⟩ := e
      obtain ⟨a, us, rfl, q, r⟩ := lstK_rep S r e1
      rw [intsOf_eq e2] at r
      split at p
      · rename_i hl
        refine .inr ⟨a, bs, rfl, r.ints ▸ q, hl, fun m hm hle => ?_⟩
        have e : m = maxL bs := Int.le_antisymm (maxL_le hm) (hle _ (maxL_mem hl))
        rw [e]
        exact p H ρ _ (Evo.refl ..) S (.int _)
      · exact p.elim
    · exact p.elim
  · exact p.elim
theorem cm_min : ClM C E (rMinU C.K) minF := by
  intro H ρ st vs ws Q S rs p
  unfold minF at p
  split at p
  · obtain ⟨v, u, rfl, r1, r2⟩ := rs.two
    cases r1; cases r2
    rename_i i j
    refine .inl ⟨i, j, rfl, ?_⟩
    have e : (if j < i then j else i) = min i j := by split <;> omega
    rw [e]
    exact p H ρ _ (Evo.refl ..) S (.int _)
  · obtain ⟨v, rfl, r⟩ := rs.one
    split at p
    · rename_i bs e
      rw [Option.bind_eq_some_iff] at e
      obtain ⟨xs, e1, e2⟩ := e
      obtain ⟨a, us, rfl, q, r⟩ := lstK_rep S r e1
      rw [intsOf_eq e2] at r
      split at p
      · rename_i hl
        refine .inr ⟨a, bs, rfl, r.ints ▸ q, hl, fun m hm hle => ?_⟩
        have e : m = minL bs := Int.le_antisymm (hle _ (minL_mem hl)) (minL_le hm)
        rw [e]
        exact p H ρ _ (Evo.refl ..) S (.int _)
      · exact p.elim
    · exact p.elim
  · exact p.elim
/-- list(x): a list that stays, or one with a place; tuple(x) -/
def listF (ws : List W) (s : Sto) : R W := match ws with
  | [w] => match seqOf s w with
    | some xs => .ok (.fl xs) s
    | none => .no
  | _ => .no
def listLF (ws : List W) (s : Sto) : R W := match ws with
  | [w] => match seqOf s w with
    | some xs => .ok (.loc s.length) (s ++ [.lst xs])
    | none => .no
  | _ => .no
def tupF (ws : List W) (s : Sto) : R W := match ws with
  | [w] => match seqOf s w with
    | some xs => .ok (.tup xs) s
    | none => .no
  | _ => .no
abbrev rListOf (K : PySem.W.Frag) : List V → Hp → VK → Prop := fun xs H Q => ∃ p ys, xs = [.ref p] ∧ (SqL K H p ys ∨ SqT K H p ys) ∧ ∀ l, H l = none → Q (.ref l) (upd H l (.lst ys))
theorem cm_list : ClM C E (rListOf C.K) listF := by
  intro H ρ st vs ws Q S rs p
  unfold listF at p
  split at p
  · obtain ⟨v, rfl, r⟩ := rs.one
    split at p
    · rename_i xs e
      obtain ⟨a, us, rfl, q, r⟩ := seqOf_rep S r e
      exact ⟨a, us, rfl, q, fun l hl => p _ ρ _ (Evo.laid hl) (S.laid hl) (fl_new S hl r)⟩
    · exact p.elim
  · exact p.elim
theorem cm_listL : ClM C E (rListOf C.K) listLF := by
  intro H ρ st vs ws Q S rs p
  unfold listLF at p
  split at p
  · obtain ⟨v, rfl, r⟩ := rs.one
    split at p
    · rename_i xs e
      obtain ⟨a, us, rfl, q, r⟩ := seqOf_rep S r e
      exact ⟨a, us, rfl, q, fun l hl => p _ (ρ.add l) _ (Evo.push hl) (lst_push S hl r) (loc_new S)⟩
    · exact p.elim
  · exact p.elim
theorem cm_tuple : ClM C E (fun xs H Q => ∃ p ys, xs = [.ref p] ∧ ((SqL C.K H p ys ∧ ∀ l, H l = none → Q (.ref l) (upd H l (.tup ys))) ∨ (SqT C.K H p ys ∧ Q (.ref p) H))) tupF := by
  intro H ρ st vs ws Q S rs p
  unfold tupF at p
  split at p
  · obtain ⟨v, rfl, r⟩ := rs.one
    split at p
    · rename_i xs e
      obtain ⟨a, us, rfl, q, r⟩ := seqOf_rep S r e
      refine ⟨a, us, rfl, ?_⟩
      rcases q with q | q
      · exact .inl ⟨q, fun l hl => p _ ρ _ (Evo.laid hl) (S.laid hl) (tup_new S hl r)⟩
      · exact .inr ⟨q, p H ρ _ (Evo.refl ..) S (.tup q r)⟩
    · exact p.elim
  · exact p.elim
/-- isinstance(x, T) of a built-in type -/
inductive Ty where
  | non | bl | int | str | tup | lst
def Ty.nm : Ty → String
  | .non => "NoneType" | .bl => "bool" | .int => "int" | .str => "str" | .tup => "tuple" | .lst => "list"
def Ty.le : Ty → Ty → Bool
  | .bl, .bl => true | .bl, .int => true | .int, .int => true | .str, .str => true | .tup, .tup => true | .lst, .lst => true | .non, .non => true | _, _ => false
theorem Ty.kit (a b : Ty) (hb : b ≠ .non) : kitB a.nm b.nm = some (a.le b) := by
  cases b with
  | non => exact absurd rfl hb
  | _ => cases a <;> decide +kernel
def tyOf (s : Sto) (w : W) : Option Ty := match w with
  | .non => some .non
  | .bl _ => some .bl
  | .int _ => some .int
  | .str _ => some .str
  | .tup _ => some .tup
  | .fl _ => some .lst
  | .kl _ => some .lst
  | .loc l => match s[l]? with
    | some (.lst _) => some .lst
    | _ => none
  | .raw _ => none
theorem tyOf_rep {H : Hp} {ρ : Pl} {st : Sto} {v : V} {w : W} {t : Ty} (S : RelS C H ρ st) (r : Rep C.K H ρ st v w) (h : tyOf st w = some t) : TyX C.K H v (.type t.nm) := by
  unfold tyOf at h
  cases r with
  | non => cases h; exact .base .non
  | bl b => cases h; exact .base (.bl b)
  | int i => cases h; exact .base (.int i)
  | str x => cases h; exact .base (.str x)
  | raw v => cases h
  | tup q r =>
    cases h
    rcases q with (q | ⟨o, q⟩) | ⟨o, its, n, q, cq, _⟩
    · exact .base (.tup q)
    · exact .fTuple q
    · exact .kTuple q cq
  | fl q n r => cases h; exact .base (.lst q)
  | kl q r =>
    cases h
    rcases q with ⟨q, _⟩ | ⟨o, q⟩ | (q | ⟨o, q⟩) | ⟨o, its, n, q, cq, _⟩
    · exact .base (.lst q)
    · exact .base (.frz q)
    · cases q
    · cases q
    · exact .kList q cq
  | @loc a l q =>
    simp only at h
    split at h
    · rename_i ws e
      cases h
      obtain ⟨vs, z, _⟩ := S.obj _ a _ q e
      exact .base (.lst z)
    · cases h
def isiW (T : Ty) (x : W) (s : Sto) : R W := match tyOf s x with
  | some t => .ok (.bl (t.le T)) s
  | none => .no
theorem me_isi {T : Ty} {p : Pos} {c : Expr} (hT : T ≠ .non) (hK : C.K = X.K) (ha : ME X C E a ma) (hc : PE X c (tC (.ty T.nm))) (hg : Gl X "isinstance") (hm : X.mg "isinstance" = none)
    (he : starEach [a, c] X.env = (false, eval a X.env) :: starEach [c] X.env := by rfl) (he2 : starEach [c] X.env = (false, eval c X.env) :: starEach [] X.env := by rfl) (hpl : (backTo pos (starEach [c] X.env)).any (·.1) = false := by rfl) :
    ME X C E (.Call (.Name "isinstance" p) [a, c] [] pos) (un (isiW T) ma) := by
  refine PE.imp (pe_callB call_isi hg hm (by decide +kernel) (pa_cons ha (pa_cons hc pa_nil he2) he) (by decide) (by decide) he hpl) fun σ H Q ⟨ρ, st, env, re, S, p⟩ => ⟨ρ, st, env, re, S, Post.bind p fun x s1 H1 ρ1 v _ e1 S1 r1 p1 => ?_⟩
  unfold isiW at p1
  split at p1
  · rename_i t ht
    exact ⟨v, .ty T.nm, .type t.nm, .type T.nm, t.le T, rfl, .ty _, hK ▸ tyOf_rep S1 r1 ht, kit_ty (Ty.kit t T hT), p1 H1 ρ1 _ (Evo.refl ..) S1 (.bl _)⟩
  · exact p1.elim

/-! ### items and slices -/
def ixW (x i : W) (s : Sto) : R W := match seqOf s x, i with
  | some ws, .int i => match atI ws i with
    | some w => .ok w s
    | none => .no
  | _, _ => .no
def rIxU (K : PySem.W.Frag) : R2 := fun x y H Q => rIxL K x y H Q ∨ rIxT K x y H Q
theorem or_ix : IxR X (rIxU X.K) := ix_list.or ix_tup
theorem atI_rep {K : PySem.W.Frag} {H : Hp} {ρ : Pl} {st : Sto} {vs : List V} {ws : List W} {i : Int} {w : W} (r : RepL K H ρ st vs ws) (h : atI ws i = some w) : ∃ v, atI vs i = some v ∧ Rep K H ρ st v w := by
  unfold atI at h ⊢
  rw [Option.bind_eq_some_iff] at h
  obtain ⟨j, e, q⟩ := h
  rw [r.length, e]
  exact r.get q
theorem om_ix : OpM C E (rIxU C.K) ixW := by
  intro H ρ st v u x y Q S rx ry p
  unfold ixW at p
  split at p
  · rename_i ws i e
    cases ry
    split at p
    · rename_i w h
      obtain ⟨a, vs, rfl, q, r⟩ := seqOf_rep S rx e
      obtain ⟨vv, h1, h2⟩ := atI_rep r h
      rcases q with q | q
      · exact .inl ⟨a, vs, _, vv, rfl, rfl, q, h1, p H ρ _ (Evo.refl ..) S h2⟩
      · exact .inr ⟨a, vs, _, vv, rfl, rfl, q, h1, p H ρ _ (Evo.refl ..) S h2⟩
    · exact p.elim
  · exact p.elim
theorem me_ix (hK : C.K = X.K) (ha : ME X C E a ma) (hb : ME X C E b mb) (hs : PlainIx b := by intro _ _; rfl) : ME X C E (.Subscript a b pos) (bn ixW ma mb) :=
  PE.imp (pe_ix or_ix ha hb hs) fun _ _ _ h => tOp_of (r := rIxU X.K) (hK ▸ om_ix) h
def cutL {α : Type} (xs : List α) (lo hi : Option Int) : List α := (xs.drop (HT.sIx xs.length 0 lo)).take (HT.sIx xs.length xs.length hi - HT.sIx xs.length 0 lo)
theorem cutL_rep {K : PySem.W.Frag} {H : Hp} {ρ : Pl} {st : Sto} {vs : List V} {ws : List W} (r : RepL K H ρ st vs ws) (lo hi : Option Int) : RepL K H ρ st (cutV vs lo hi) (cutL ws lo hi) := by
  unfold cutV cutL
  rw [r.length]
  exact (r.drop _).take _
abbrev Ox := En → Sto → R (Option Int)
def oxn : Ox := fun _ st => .ok none st
def oxs (a : Ex) : Ox := fun env st => (a env st).bind fun x s => match x with
  | .int i => .ok (some i) s
  | _ => .no
def tMO (C : MC) (E : XK) (m : Ox) : TO := fun σ H Q => ∃ ρ st env, RelE C.K H ρ st σ env ∧ RelS C H ρ st ∧ Post relI C E H ρ st (m env st) Q
def MO (X : Cx) (C : MC) (E : XK) (e : Option Expr) (m : Ox) : Prop := PO X e (tMO C E m)
theorem mo_none : MO X C E none oxn := ⟨fun pins s σ H Q I ⟨ρ, st, env, re, S, p⟩ => po_none.run pins s σ H Q I (p H ρ none (Evo.refl ..) S rfl)⟩
theorem mo_some (h : ME X C E a ma) : MO X C E (some a) (oxs ma) := by
  refine ⟨fun pins s σ H Q I ⟨ρ, st, env, re, S, p⟩ => (po_some h).run pins s σ H Q I ⟨ρ, st, env, re, S, Post.bind p fun x s1 H1 ρ1 v _ e1 S1 r1 p1 => ?_⟩⟩
  cases x with
  | int i => cases r1; exact ⟨i, rfl, p1 H1 ρ1 (some i) (Evo.refl ..) S1 rfl⟩
  | _ => exact p1.elim
/-- what a slice gives: a list that stays, one with a place, a tuple -/
def slF (x : W) (lo hi : Option Int) (s : Sto) : R W := match x with
  | .tup ws => if HT.sIx ws.length 0 lo = 0 ∧ HT.sIx ws.length ws.length hi = ws.length then .no else .ok (.tup (cutL ws lo hi)) s
  | x => match lstK s x with
    | some ws => .ok (.fl (cutL ws lo hi)) s
    | none => .no
def slLF (x : W) (lo hi : Option Int) (s : Sto) : R W := match lstK s x with
  | some ws => .ok (.loc s.length) (s ++ [.lst (cutL ws lo hi)])
  | none => .no
def slE (f : W → Option Int → Option Int → Sto → R W) (a : Ex) (lo hi : Ox) : Ex := fun env st => (a env st).bind fun x s1 => (lo env s1).bind fun l s2 => (hi env s2).bind fun h s3 => f x l h s3
def SlM (C : MC) (E : XK) (r : V → Option Int → Option Int → Hp → VK → Prop) (f : W → Option Int → Option Int → Sto → R W) : Prop := ∀ (H : Hp) (ρ : Pl) (st : Sto) (v : V) (x : W) (lo hi : Option Int) (Q : VK),
  RelS C H ρ st → Rep C.K H ρ st v x → Post (relW C) C E H ρ st (f x lo hi st) Q → r v lo hi H Q
def rSlU (K : PySem.W.Frag) : V → Option Int → Option Int → Hp → VK → Prop := fun x lo hi H Q => rSlL K x lo hi H Q ∨ rSlT K x lo hi H Q
theorem or_sl : SlR X (rSlU X.K) := sl_list.or sl_tup
theorem sm_sl : SlM C E (rSlU C.K) slF := by
  intro H ρ st v x lo hi Q S rx p
  unfold slF at p
  split at p
  · cases rx with
    | tup h1 h2 =>
      split at p
      · exact p.elim
      · rename_i h
        exact .inr ⟨_, _, rfl, h1, by rw [h2.length]; exact h, fun q hq => p _ ρ _ (Evo.laid hq) (S.laid hq) (tup_new S hq (cutL_rep h2 lo hi))⟩
  · split at p
    · rename_i ws e
      obtain ⟨a, vs, rfl, q, r⟩ := lstK_rep S rx e
      exact .inl ⟨a, vs, rfl, q, fun q hq => p _ ρ _ (Evo.laid hq) (S.laid hq) (fl_new S hq (cutL_rep r lo hi))⟩
    · exact p.elim
theorem sm_slL : SlM C E (rSlU C.K) slLF := by
  intro H ρ st v x lo hi Q S rx p
  unfold slLF at p
  split at p
  · rename_i ws e
    obtain ⟨a, vs, rfl, q, r⟩ := lstK_rep S rx e
    exact .inl ⟨a, vs, rfl, q, fun q hq => p _ (ρ.add q) _ (Evo.push hq) (lst_push S hq (cutL_rep r lo hi)) (loc_new S)⟩
  · exact p.elim
theorem me_sl {lo hi : Option Expr} {ml mh : Ox} {p2 : Pos} {f : W → Option Int → Option Int → Sto → R W} (hK : C.K = X.K) (hf : SlM C E (rSlU C.K) f) (ha : ME X C E a ma) (hl : MO X C E lo ml) (hh : MO X C E hi mh) : ME X C E (.Subscript a (.Slice lo hi none p2) pos) (slE f ma ml mh) := by
  refine PE.imp (pe_slice or_sl ha hl hh) fun σ H Q ⟨ρ, st, env, re, S, p⟩ => ⟨ρ, st, env, re, S, Post.bind p fun x s1 H1 ρ1 v _ e1 S1 r1 p1 => ?_⟩
  have re1 := re.evo e1 S.liv
  refine ⟨ρ1, s1, env, re1, S1, Post.bind (rel := relI) p1 fun l s2 H2 ρ2 vl _ e2 S2 r2 p2 => ?_⟩
  refine ⟨ρ2, s2, env, re1.evo e2 S1.liv, S2, Post.bind (rel := relI) p2 fun h s3 H3 ρ3 vh _ e3 S3 r3 p3 => ?_⟩
  have r2 : vl = l := r2
  have r3 : vh = h := r3
  subst r2; subst r3
  rw [← hK]
  exact hf H3 ρ3 s3 v x vl vh Q S3 ((r1.evo e2 S1.liv).evo e3 S2.liv) p3

/-! ### methods of lists -/
def MtW (C : MC) (E : XK) (r : V → List V → Hp → VK → Prop) (f : W → List W → Sto → R W) : Prop := ∀ (H : Hp) (ρ : Pl) (st : Sto) (v : V) (vs : List V) (x : W) (ws : List W) (Q : VK),
  RelS C H ρ st → Rep C.K H ρ st v x → RepL C.K H ρ st vs ws → Post (relW C) C E H ρ st (f x ws st) Q → r v vs H Q
/-- o.m(..), o a list -/
def lmE (f : W → List W → Sto → R W) (o : Ex) (m : Ax) : Ex := fun env st => (o env st).bind fun x s1 => match lstK s1 x with
  | some _ => (m env s1).bind fun ws s2 => f x ws s2
  | none => .no
section
variable {name : Str} {apos cpos : Pos} {id : String} {r : V → List V → Hp → VK → Prop} {f : W → List W → Sto → R W}
theorem me_lm (hK : C.K = X.K) (hf : MtW C E r f) (slot : Slot "list" name id) (hty : typeOf (.builtin id) = pure (.type "method_descriptor")) (hm : MtR X id r) (ho : ME X C E o mo) (ha : MA' X C E (e :: es) mr)
    (hbase : attributeBase o name X.env (eval o X.env) = eval o X.env := by rfl)
    (hfew : ((backTo cpos (starEach (e :: es) X.env)).all (fun x => !x.1) && (backToKw cpos (keywordEach [] X.env)).all (fun x => x.1.isSome)
      && decide ((e :: es).length + ([] : List Keyword).length + (if ([] : List Keyword).isEmpty then 0 else 1) < 30)) = true := by rfl)
    (hline : (apos.endLine == cpos.line) = true := by rfl) (hs : starEach (e :: es) X.env = (false, eval e X.env) :: starEach es X.env := by rfl) (hplain : (backTo cpos (starEach es X.env)).any (·.1) = false := by rfl) :
    ME X C E (.Call (.Attribute o name apos) (e :: es) [] cpos) (lmE f mo mr) := by
  refine PE.imp (pe_bm PySem.F.plainAttrs_list slot hty hm ho ha.pa hbase hfew hline hs hplain) fun σ H Q ⟨ρ, st, env, re, S, p⟩ => ⟨ρ, st, env, re, S, Post.bind p fun x s1 H1 ρ1 v _ e1 S1 r1 p1 => ?_⟩
  split at p1
  · rename_i zs ez
    obtain ⟨a, vs, rfl, q, r⟩ := lstK_rep S1 r1 ez
    refine ⟨.inl ⟨rfl, vs, hK ▸ q⟩, ?_⟩
    refine ⟨ρ1, s1, env, re.evo e1 S.liv, S1, Post.bind p1 fun l s2 H2 ρ2 vl _ e2 S2 r2 p2 => ?_⟩
    exact hf H2 ρ2 s2 _ vl x l Q S2 (r1.evo e2 S1.liv) r2 p2
  · exact p1.elim
theorem me_lm0 (hK : C.K = X.K) (hf : MtW C E r f) (slot : Slot "list" name id) (hty : typeOf (.builtin id) = pure (.type "method_descriptor")) (hm : MtR X id r) (ho : ME X C E o mo)
    (hbase : attributeBase o name X.env (eval o X.env) = eval o X.env := by rfl) (hline : (apos.endLine == cpos.line) = true := by rfl) :
    ME X C E (.Call (.Attribute o name apos) [] [] cpos) (lmE f mo axn) := by
  refine PE.imp (pe_bm0 PySem.F.plainAttrs_list slot hty hm ho hbase hline) fun σ H Q ⟨ρ, st, env, re, S, p⟩ => ⟨ρ, st, env, re, S, Post.bind p fun x s1 H1 ρ1 v _ e1 S1 r1 p1 => ?_⟩
  split at p1
  · rename_i zs ez
    obtain ⟨a, vs, rfl, q, r⟩ := lstK_rep S1 r1 ez
    exact ⟨.inl ⟨rfl, vs, hK ▸ q⟩, hf H1 ρ1 s1 _ [] x [] Q S1 r1 .nil p1⟩
  · exact p1.elim
end
theorem lst_write {H : Hp} {ρ : Pl} {st : Sto} {l : Nat} {a : Addr} {vs : List V} {ws us : List W} (S : RelS C H ρ st) (h : ρ.pl[l]? = some a) (e : st[l]? = some (.lst us)) (r : RepL C.K H ρ st vs ws) :
    Evo H ρ st (upd H a (.lst vs)) ρ (st.set l (.lst ws)) ∧ RelS C (upd H a (.lst vs)) ρ (st.set l (.lst ws)) :=
  have ev : Evo H ρ st (upd H a (.lst vs)) ρ (st.set l (.lst ws)) := Evo.write h e (fun z => nomatch z)
  ⟨ev, S.write h e (fun z => nomatch z) ⟨vs, upd_same, r.evo ev S.liv⟩⟩
def appF (x : W) (ws : List W) (s : Sto) : R W := match x, ws with
  | .loc l, [w] => match s[l]? with
    | some (.lst xs) => if ck (xs.length < 10000000) = true then .ok .non (s.set l (.lst (xs ++ [w]))) else .no
    | _ => .no
  | _, _ => .no
theorem mm_append : MtW C E rAppend appF := by
  intro H ρ st v vs x ws Q S rx rs p
  unfold appF at p
  split at p
  · cases rx with
    | @loc a l q =>
      obtain ⟨u, rfl, ru⟩ := rs.one
      split at p
      · rename_i xs e
        split at p
        · rename_i hl
          obtain ⟨zs, hz, rz⟩ := S.obj _ a _ q e
          obtain ⟨ev, S'⟩ := lst_write S q e (rz.append (.cons ru .nil))
          exact ⟨a, zs, u, rfl, rfl, hz, by rw [rz.length]; exact Nat.lt_of_lt_of_le (ck_iff.mp hl) (by decide), p _ ρ _ ev S' .non⟩
        · exact p.elim
      · exact p.elim
  · exact p.elim
def extF (x : W) (ws : List W) (s : Sto) : R W := match x, ws with
  | .loc l, [w] => match s[l]?, lstOf s w with
    | some (.lst xs), some ys => if ck (xs.length + ys.length ≤ 10000000) = true then .ok .non (s.set l (.lst (xs ++ ys))) else .no
    | _, _ => .no
  | _, _ => .no
theorem mm_extend : MtW C E rExtend extF := by
  intro H ρ st v vs x ws Q S rx rs p
  unfold extF at p
  split at p
  · cases rx with
    | @loc a l q =>
      obtain ⟨u, rfl, ru⟩ := rs.one
      split at p
      · rename_i xs ys e ey
        split at p
        · rename_i hl
          obtain ⟨zs, hz, rz⟩ := S.obj _ a _ q e
          obtain ⟨b, us, rfl, hb, rb⟩ := lstOf_rep S ru ey
          obtain ⟨ev, S'⟩ := lst_write S q e (rz.append rb)
          exact ⟨a, b, zs, us, rfl, rfl, hz, hb, by rw [rz.length, rb.length]; exact szL (ck_iff.mp hl), p _ ρ _ ev S' .non⟩
        · exact p.elim
      · exact p.elim
  · exact p.elim
def popF (x : W) (ws : List W) (s : Sto) : R W := match x, ws with
  | .loc l, [] => match s[l]? with
    | some (.lst xs) => match xs[xs.length - 1]? with
      | some y => .ok y (s.set l (.lst xs.dropLast))
      | none => .no
    | _ => .no
  | _, _ => .no
theorem mm_pop : MtW C E rPop popF := by
  intro H ρ st v vs x ws Q S rx rs p
  unfold popF at p
  split at p
  · cases rx with
    | @loc a l q =>
      cases rs
      split at p
      · rename_i xs e
        split at p
        · rename_i y hy
          obtain ⟨zs, hz, rz⟩ := S.obj _ a _ q e
          obtain ⟨u, hu, ru⟩ := rz.get hy
          obtain ⟨ev, S'⟩ := lst_write S q e rz.dropLast
          exact ⟨a, zs, u, rfl, rfl, hz, by rw [rz.length]; exact hu, p _ ρ _ ev S' (ru.evo ev S.liv)⟩
        · exact p.elim
      · exact p.elim
  · exact p.elim
end
end ML

/-! ML4: calls, fields, statements, loops, defs -/
namespace ML
open PySem L2
noncomputable section

/-! ### a def's promise -/
/-- called with what ws reads as, it gives what d gives; no exception leaves it -/
def sp0 (C : MC) (n : Nat) (d : List W → Sto → R W) : Sp := fun vs H Q _ => vs.length = n ∧ ∃ ρ st ws, RepL C.K H ρ st vs ws ∧ RelS C H ρ st ∧ Post (relW C) C E0 H ρ st (d ws st) Q
section
variable {X : Cx} {C : MC} {a b c e o : Expr} {ma mb mc mo : Ex} {pos : Pos} {es : List Expr} {mr : Ax}
variable {k : Nat} {f : Addr} {fd : FuncData} {ps : List Str} {x m : Str} {p apos : Pos} {d : List W → Sto → R W}
theorem me_call {n : Nat} (F : FnOk X.prog X.w X.K X.mg X.base CX0 k f fd ps (sp0 C n d)) (hr : Room k X.A) (hg : Gl X x) (hm : X.mg x = some (.ref f)) (hk : PySem.W.keepIn X.K (.ref f) = true) (hb : Binds X.K fd ps []) (hn : (e :: es).length = n)
    (ha : MA' X C E0 (e :: es) mr) (hdb : (x == ("__debug__" : Str)) = false := by decide) (he : starEach (e :: es) X.env = (false, eval e X.env) :: starEach es X.env := by rfl) (hpl : (backTo pos (starEach es X.env)).any (·.1) = false := by rfl) :
    ME X C E0 (.Call (.Name x p) (e :: es) [] pos) (clE d mr) := by
  refine PE.imp (pe_call F hr hg hm hk hb .nil pass0 ha.pa hdb he hpl) fun σ H Q ⟨ρ, st, env, re, S, p⟩ => ⟨ρ, st, env, re, S, Post.bind p fun ws s1 H1 ρ1 vs hw e1 S1 r1 p1 => ?_⟩
  rw [List.append_nil]
  exact ⟨by rw [r1.length, ha.ln _ _ _ _ hw, hn], ρ1, s1, ws, r1, S1, p1⟩
theorem me_call0 (F : FnOk X.prog X.w X.K X.mg X.base CX0 k f fd ps (sp0 C 0 d)) (hr : Room k X.A) (hg : Gl X x) (hm : X.mg x = some (.ref f)) (hk : PySem.W.keepIn X.K (.ref f) = true) (hb : Binds X.K fd ps [])
    (hdb : (x == ("__debug__" : Str)) = false := by decide) : ME X C E0 (.Call (.Name x p) [] [] pos) (clE d axn) := by
  refine PE.imp (pe_call0 F hr hg hm hk hb .nil pass0 hdb) fun σ H Q ⟨ρ, st, env, re, S, p⟩ => ?_
  exact ⟨rfl, ρ, st, [], .nil, S, p⟩
/-- an instance of the c-th class -/
def isIns (c : Nat) (w : W) (s : Sto) : Bool := match w with
  | .loc l => match s[l]? with
    | some (.ins c' _) => c' == c
    | _ => false
  | _ => false
def mthE (c : Nat) (d : List W → Sto → R W) (o : Ex) (m : Ax) : Ex := fun env st => (o env st).bind fun x s1 => if isIns c x s1 = true then (m env s1).bind fun ws s2 => d (x :: ws) s2 else .no
theorem isIns_rep {H : Hp} {ρ : Pl} {st : Sto} {v : V} {w : W} {c : Nat} {Cd : Addr} {nm : List Str} (S : RelS C H ρ st) (r : Rep C.K H ρ st v w) (hc : C.cls[c]? = some (Cd, nm)) (h : isIns c w st = true) :
    ∃ l a dx fs fvs, w = .loc l ∧ v = .ref a ∧ ρ.pl[l]? = some a ∧ st[l]? = some (.ins c fs) ∧ H a = some (.ins Cd dx fvs) ∧ RepF C H ρ st nm fvs fs := by
  unfold isIns at h
  split at h
  · rename_i l
    split at h
    · rename_i c' fs e
      have e2 : c' = c := by simpa using h
      subst e2
      cases r with
      | @loc a l q =>
        obtain ⟨Cd', nm', dx, fvs, q1, q2, q3⟩ := S.obj _ a _ q e
        rw [hc] at q1; cases q1
        exact ⟨_, a, dx, fs, fvs, rfl, rfl, q, e, q2, q3⟩
    · cases h
  · cases h
theorem RepF.none {H : Hp} {ρ : Pl} {st : Sto} {nm : List Str} {fvs : List (Str × V)} {fs : List (Option W)} (h : RepF C H ρ st nm fvs fs) {m : Str} (hm : m ∉ nm) : fvs.lookup m = none := by
  cases e : fvs.lookup m with
  | none => rfl
  | some v =>
    refine absurd (h.2.2.2 m ?_) hm
    have : ∀ {l : List (Str × V)}, l.lookup m = some v → m ∈ l.map (·.1) := by
      intro l
      induction l with
      | nil => intro z; cases z
      | cons y ys ih =>
        intro z
        rw [List.lookup_cons] at z
        cases q : m == y.1 with
        | true => rw [beq_iff_eq.mp q]; exact List.mem_cons_self
        | false => rw [q] at z; exact List.mem_cons_of_mem _ (ih z)
    exact this e
/-- o.m(..) -/
theorem me_meth {n c : Nat} {Cd : Addr} {nm : List Str} {pl : Sem Bool} (ho : ME X C E0 o mo) (hc : C.cls[c]? = some (Cd, nm)) (hmn : m ∉ nm) (cl : Cls X.K Cd) (hm : Meth X.K Cd m f) (F : FnOk X.prog X.w X.K X.mg X.base CX0 k f fd ps (sp0 C (n + 1) d)) (hr : Room k X.A) (hb : Binds X.K fd ps [])
    (hn : (e :: es).length = n) (ha : MA' X C E0 (e :: es) mr)
    (hst : starEach (e :: es) X.env = (false, eval e X.env) :: starEach es X.env := by rfl) (hpl : (backTo pos (starEach es X.env)).any (·.1) = false := by rfl)
    (ht : eval (.Call (.Attribute o m apos) (e :: es) [] pos) X.env = (do
      let ov ← eval o X.env
      standAt apos.atName
      let (f, first) ← holding [ov] (getMethod ov m pl)
      callWith pos f first (backTo pos (starEach (e :: es) X.env)) (backToKw pos (keywordEach [] X.env))) := by rfl) :
    ME X C E0 (.Call (.Attribute o m apos) (e :: es) [] pos) (mthE c d mo mr) := by
  refine PE.imp (pe_meth (pl := pl) ho cl hm F hr hb .nil pass0 ha.pa hst hpl ht) fun σ H Q ⟨ρ, st, env, re, S, p⟩ => ⟨ρ, st, env, re, S, Post.bind p fun x s1 H1 ρ1 v hx e1 S1 r1 p1 => ?_⟩
  split at p1
  · rename_i hi
    obtain ⟨l, a, dx, fs, fvs, rfl, rfl, q1, q2, q3, q4⟩ := isIns_rep S1 r1 hc hi
    refine ⟨a, dx, fvs, rfl, q3, q4.none hmn, ?_⟩
    refine ⟨ρ1, s1, env, re.evo e1 S.liv, S1, Post.bind p1 fun ws s2 H2 ρ2 vs hw e2 S2 r2 p2 => ?_⟩
    rw [List.append_nil]
    exact ⟨by rw [List.length_cons, r2.length, ha.ln _ _ _ _ hw, hn], ρ2, s2, _, .cons (r1.evo e2 S1.liv) r2, S2, p2⟩
  · exact p1.elim
theorem me_meth0 {c : Nat} {Cd : Addr} {nm : List Str} {pl : Sem Bool} (ho : ME X C E0 o mo) (hc : C.cls[c]? = some (Cd, nm)) (hmn : m ∉ nm) (cl : Cls X.K Cd) (hm : Meth X.K Cd m f) (F : FnOk X.prog X.w X.K X.mg X.base CX0 k f fd ps (sp0 C 1 d)) (hr : Room k X.A) (hb : Binds X.K fd ps [])
    (ht : eval (.Call (.Attribute o m apos) [] [] pos) X.env = (do
      let ov ← eval o X.env
      standAt apos.atName
      let (f, first) ← holding [ov] (getMethod ov m pl)
      callWith pos f first (backTo pos (starEach [] X.env)) (backToKw pos (keywordEach [] X.env))) := by rfl) :
    ME X C E0 (.Call (.Attribute o m apos) [] [] pos) (mthE c d mo axn) := by
  refine PE.imp (L2.pe_meth0 (pl := pl) ho cl hm F hr hb .nil pass0 ht) fun σ H Q ⟨ρ, st, env, re, S, p⟩ => ⟨ρ, st, env, re, S, Post.bind p fun x s1 H1 ρ1 v hx e1 S1 r1 p1 => ?_⟩
  split at p1
  · rename_i hi
    obtain ⟨l, a, dx, fs, fvs, rfl, rfl, q1, q2, q3, q4⟩ := isIns_rep S1 r1 hc hi
    exact ⟨a, dx, fvs, rfl, q3, q4.none hmn, rfl, ρ1, s1, [.loc l], .cons r1 .nil, S1, p1⟩
  · exact p1.elim

/-- C(..) -/
def mkE (c nf : Nat) (d : List W → Sto → R W) (m : Ax) : Ex := fun env st => (m env st).bind fun ws s1 => (d (.loc s1.length :: ws) (s1 ++ [.ins c (List.replicate nf none)])).bind fun r s2 => match r with
  | .non => .ok (.loc s1.length) s2
  | _ => .no
theorem ins_push {H : Hp} {ρ : Pl} {st : Sto} {q dq : Addr} {c : Nat} {Cd : Addr} {nm : List Str} (S : RelS C H ρ st) (hc : C.cls[c]? = some (Cd, nm)) (hq : H q = none) (hd : H dq = none) (ne : dq ≠ q) :
    Evo H ρ st (upd (upd H dq (.own q)) q (.ins Cd dq [])) (ρ.add q) (st ++ [.ins c (List.replicate nm.length none)]) ∧ RelS C (upd (upd H dq (.own q)) q (.ins Cd dq [])) (ρ.add q) (st ++ [.ins c (List.replicate nm.length none)]) := by
  have S1 : RelS C (upd H dq (.own q)) ρ st := S.laid hd
  have hq1 : upd H dq (.own q) q = none := by rw [upd_ne (Ne.symm ne)]; exact hq
  refine ⟨(Evo.laid hd).trans (Evo.push hq1), S1.push hq1 ⟨Cd, nm, dq, [], hc, upd_same, by simp, fun i f w h1 h2 => ?_, by simp, by simp⟩⟩
  rw [List.getElem?_replicate] at h2
  split at h2 <;> cases h2
theorem make_of {H1 : Hp} {ρ1 : Pl} {s1 : Sto} {n c : Nat} {Cd : Addr} {nm : List Str} {Q : VK} {vs : List V} {ws : List W} (hc : C.cls[c]? = some (Cd, nm)) (S1 : RelS C H1 ρ1 s1) (r1 : RepL C.K H1 ρ1 s1 vs ws) (hl : vs.length = n)
    (p1 : Post (relW C) C E0 H1 ρ1 s1 ((d (.loc s1.length :: ws) (s1 ++ [.ins c (List.replicate nm.length none)])).bind fun r s2 => match r with
      | .non => .ok (.loc s1.length) s2
      | _ => .no) Q) : ∀ x dx, H1 x = none → H1 dx = none → dx ≠ x → sp0 C (n + 1) d (.ref x :: (vs ++ [])) (upd (upd H1 dx (.own x)) x (.ins Cd dx [])) (fun v H2 => v = .non ∧ Q (.ref x) H2) E0 := by
  intro q dq hq hd ne
  obtain ⟨ev, S2⟩ := ins_push (c := c) S1 hc hq hd ne
  have rl : Rep C.K (upd (upd H1 dq (.own q)) q (.ins Cd dq [])) (ρ1.add q) (s1 ++ [.ins c (List.replicate nm.length none)]) (.ref q) (.loc s1.length) := .loc (by rw [← S1.len]; exact add_new)
  rw [List.append_nil]
  refine ⟨by rw [List.length_cons, hl], _, _, _, .cons rl (r1.evo ev S1.liv), S2, Post.bind (rel' := relW C) (Post.shift p1 ev) fun w s2 H2 ρ2 v hw e2 S3 r3 p2 => ?_⟩
  cases w with
  | non => cases r3; exact ⟨rfl, p2 H2 ρ2 _ (Evo.refl ..) S3 (rl.evo e2 S2.liv)⟩
  | _ => exact p2.elim
theorem me_make {n c : Nat} {Cd : Addr} {nm : List Str} (hc : C.cls[c]? = some (Cd, nm)) (M : Mk X.K Cd f) (F : FnOk X.prog X.w X.K X.mg X.base CX0 k f fd ps (sp0 C (n + 1) d)) (hr : Room (k + 1) X.A) (hg : Gl X x) (hm : X.mg x = some (.ref Cd)) (hb : Binds X.K fd ps [])
    (hn : (e :: es).length = n) (ha : MA' X C E0 (e :: es) mr) (hdb : (x == ("__debug__" : Str)) = false := by decide) (he : starEach (e :: es) X.env = (false, eval e X.env) :: starEach es X.env := by rfl) (hpl : (backTo pos (starEach es X.env)).any (·.1) = false := by rfl) :
    ME X C E0 (.Call (.Name x p) (e :: es) [] pos) (mkE c nm.length d mr) := by
  refine PE.imp (pe_make M F hr hg hm hb .nil pass0 ha.pa hdb he hpl) fun σ H Q ⟨ρ, st, env, re, S, p⟩ => ⟨ρ, st, env, re, S, Post.bind p fun ws s1 H1 ρ1 vs hw e1 S1 r1 p1 => ?_⟩
  exact make_of hc S1 r1 (by rw [r1.length, ha.ln _ _ _ _ hw, hn]) p1
theorem me_make0 {c : Nat} {Cd : Addr} {nm : List Str} (hc : C.cls[c]? = some (Cd, nm)) (M : Mk X.K Cd f) (F : FnOk X.prog X.w X.K X.mg X.base CX0 k f fd ps (sp0 C 1 d)) (hr : Room (k + 1) X.A) (hg : Gl X x) (hm : X.mg x = some (.ref Cd)) (hb : Binds X.K fd ps [])
    (hdb : (x == ("__debug__" : Str)) = false := by decide) : ME X C E0 (.Call (.Name x p) [] [] pos) (mkE c nm.length d axn) := by
  refine PE.imp (pe_make0 M F hr hg hm hb .nil pass0 hdb) fun σ H Q ⟨ρ, st, env, re, S, p⟩ => ?_
  exact make_of (vs := []) hc S .nil rfl p
end

section
variable {X : Cx} {C : MC} {E : XK} {a b c e o value : Expr} {ma mb mc mo mv : Ex} {pos pos' tpos : Pos} {es : List Expr} {mr : Ax}
/-! ### fields -/
def fldW (c j : Nat) (x : W) (s : Sto) : R W := match x with
  | .loc l => match s[l]? with
    | some (.ins c' fs) => if c' = c then (match fs[j]? with
      | some (some w) => .ok w s
      | _ => .no) else .no
    | _ => .no
  | _ => .no
theorem me_fld {c j : Nat} {Cd : Addr} {nm : List Str} {f : Str} (hK : C.K = X.K) (hc : C.cls[c]? = some (Cd, nm)) (hj : nm[j]? = some f) (cl : Cls X.K Cd) (na : NoAttr X.K Cd f) (ho : ME X C E o mo) (hb : attributeBase o f X.env (eval o X.env) = eval o X.env := by rfl) :
    ME X C E (.Attribute o f pos) (un (fldW c j) mo) := by
  refine PE.imp (pe_fld ho hb) fun σ H Q ⟨ρ, st, env, re, S, p⟩ => ⟨ρ, st, env, re, S, Post.bind p fun x s1 H1 ρ1 v hx e1 S1 r1 p1 => ?_⟩
  unfold fldW at p1
  split at p1
  · split at p1
    · rename_i c' fs e
      split at p1
      · rename_i ec
        subst ec
        split at p1
        · rename_i w ew
          cases r1 with
          | @loc a l q =>
            obtain ⟨Cd', nm', dx, fvs, q1, q2, q3⟩ := S1.obj _ a _ q e
            rw [hc] at q1; cases q1
            obtain ⟨vv, l1, l2⟩ := q3.2.1 j f w hj ew
            exact ⟨a, Cd, dx, fvs, vv, rfl, q2, cl, na, l1, p1 H1 ρ1 _ (Evo.refl ..) S1 l2⟩
        · exact p1.elim
      · exact p1.elim
    · exact p1.elim
  · exact p1.elim
theorem RepF.put {H : Hp} {ρ : Pl} {st : Sto} {nm : List Str} {fvs : List (Str × V)} {fs : List (Option W)} (h : RepF C H ρ st nm fvs fs) (nd : nm.Nodup) {j : Nat} {f : Str} (hj : nm[j]? = some f) {v : V} {w : W} (r : Rep C.K H ρ st v w) :
    RepF C H ρ st nm (putF f v fvs) (fs.set j (some w)) := by
  refine ⟨by rw [List.length_set]; exact h.1, fun i g x h1 h2 => ?_, ?_, ?_⟩
  · rw [lookup_putF]
    by_cases z : j = i
    · subst z
      rw [hj] at h1; cases h1
      have hlt : j < fs.length := by
        have := (List.getElem?_eq_some_iff.mp h2).1
        simpa using this
      rw [List.getElem?_set_self hlt] at h2
      cases h2
      exact ⟨v, if_pos rfl, r⟩
    · rw [List.getElem?_set_ne z] at h2
      obtain ⟨u, q1, q2⟩ := h.2.1 i g x h1 h2
      have ne : g ≠ f := fun e => z (nd_ix nd hj (e ▸ h1))
      exact ⟨u, by rw [if_neg ne]; exact q1, q2⟩
  · have nd2 := h.2.2.1
    have key : ∀ l : List (Str × V), (l.map (·.1)).Nodup → ((putF f v l).map (·.1)).Nodup ∧ ∀ g, g ∈ (putF f v l).map (·.1) → g = f ∨ g ∈ l.map (·.1) := by
      intro l
      induction l with
      | nil => intro _; exact ⟨by simp [putF], fun g hg => .inl (by simpa [putF] using hg)⟩
      | cons y ys ih =>
        intro hn
        obtain ⟨k, u⟩ := y
        rw [List.map_cons, List.nodup_cons] at hn
        obtain ⟨i1, i2⟩ := ih hn.2
        show ((if k = f then (k, v) :: ys else (k, u) :: putF f v ys).map (·.1)).Nodup ∧ _
        by_cases z : k = f
        · subst z
          refine ⟨by rw [if_pos rfl, List.map_cons, List.nodup_cons]; exact hn, fun g hg => ?_⟩
          have hg' : g ∈ ((if k = k then (k, v) :: ys else (k, u) :: putF k v ys).map (·.1)) := hg
          rw [if_pos rfl] at hg'
          exact .inr hg'
        · refine ⟨?_, fun g hg => ?_⟩
          · rw [if_neg z, List.map_cons, List.nodup_cons]
            refine ⟨fun hm => ?_, i1⟩
            rcases i2 k hm with q | q
            · exact z q
            · exact hn.1 q
          · have hg' : g ∈ ((if k = f then (k, v) :: ys else (k, u) :: putF f v ys).map (·.1)) := hg
            rw [if_neg z, List.map_cons] at hg'
            rcases List.mem_cons.mp hg' with q | q
            · exact .inr (by rw [List.map_cons, q]; exact List.mem_cons_self)
            · rcases i2 g q with q | q
              · exact .inl q
              · exact .inr (by rw [List.map_cons]; exact List.mem_cons_of_mem _ q)
    exact (key fvs nd2).1
  · intro g hg
    have key : ∀ l : List (Str × V), ∀ g, g ∈ (putF f v l).map (·.1) → g = f ∨ g ∈ l.map (·.1) := by
      intro l
      induction l with
      | nil => intro g hg; exact .inl (by simpa [putF] using hg)
      | cons y ys ih =>
        intro g hg
        obtain ⟨k, u⟩ := y
        have hg' : g ∈ ((if k = f then (k, v) :: ys else (k, u) :: putF f v ys).map (·.1)) := hg
        by_cases z : k = f
        · rw [if_pos z, List.map_cons] at hg'
          rcases List.mem_cons.mp hg' with q | q
          · exact .inl (q.trans z)
          · exact .inr (List.mem_cons_of_mem _ q)
        · rw [if_neg z, List.map_cons] at hg'
          rcases List.mem_cons.mp hg' with q | q
          · exact .inr (by rw [List.map_cons, q]; exact List.mem_cons_self)
          · rcases ih g q with q | q
            · exact .inl q
            · exact .inr (List.mem_cons_of_mem _ q)
    rcases key fvs g hg with q | q
    · rw [q]; exact List.mem_of_getElem? hj
    · exact h.2.2.2 g q
theorem nodup_len : ∀ {l m : List Str}, l.Nodup → (∀ x ∈ l, x ∈ m) → l.length ≤ m.length := by
  intro l
  induction l with
  | nil => intro m _ _; simp
  | cons x xs ih =>
    intro m hn hs
    rw [List.nodup_cons] at hn
    have hx : x ∈ m := hs x List.mem_cons_self
    have h1 := ih (m := m.erase x) hn.2 fun y hy => by
      have hne : y ≠ x := fun e => hn.1 (e ▸ hy)
      exact (List.mem_erase_of_ne hne).mpr (hs y (List.mem_cons_of_mem _ hy))
    rw [List.length_erase_of_mem hx] at h1
    have : 0 < m.length := List.length_pos_of_mem hx
    simp only [List.length_cons]
    omega
theorem RepF.small {H : Hp} {ρ : Pl} {st : Sto} {nm : List Str} {fvs : List (Str × V)} {fs : List (Option W)} (h : RepF C H ρ st nm fvs fs) (hl : nm.length < 1000) : fvs.length < 1000 := by
  have := nodup_len h.2.2.1 h.2.2.2
  rw [List.length_map] at this
  omega
def passS : Sx := fun env st => .nx env st
def setFS (c j : Nat) (mo mv : Ex) : Sx := fun env st => (mv env st).toS fun w s1 => (mo env s1).toS fun x s2 => match x with
  | .loc l => match s2[l]? with
    | some (.ins c' fs) => if c' = c then .nx env (s2.set l (.ins c' (fs.set j (some w)))) else .no
    | _ => .no
  | _ => .no
theorem ins_write {H : Hp} {ρ : Pl} {st : Sto} {l c j : Nat} {a Cd dx : Addr} {nm : List Str} {f : Str} {fvs : List (Str × V)} {fs : List (Option W)} {v : V} {w : W} (S : RelS C H ρ st) (hc : C.cls[c]? = some (Cd, nm)) (nd : nm.Nodup) (hj : nm[j]? = some f)
    (h : ρ.pl[l]? = some a) (e : st[l]? = some (.ins c fs)) (q3 : RepF C H ρ st nm fvs fs) (r : Rep C.K H ρ st v w) :
    Evo H ρ st (upd H a (.ins Cd dx (putF f v fvs))) ρ (st.set l (.ins c (fs.set j (some w)))) ∧ RelS C (upd H a (.ins Cd dx (putF f v fvs))) ρ (st.set l (.ins c (fs.set j (some w)))) :=
  have ev : Evo H ρ st (upd H a (.ins Cd dx (putF f v fvs))) ρ (st.set l (.ins c (fs.set j (some w)))) := Evo.write h e (fun z => nomatch z)
  ⟨ev, S.write h e (fun z => nomatch z) ⟨Cd, nm, dx, _, hc, upd_same, (q3.put nd hj r).evo ev S.liv⟩⟩
theorem ms_fld {c j : Nat} {Cd : Addr} {nm : List Str} {f : Str} (hK : C.K = X.K) (hc : C.cls[c]? = some (Cd, nm)) (nd : nm.Nodup) (hl : nm.length < 1000) (hj : nm[j]? = some f) (cl : Cls X.K Cd) (na : NoAttr X.K Cd f) (ho : ME X C E o mo) (hv : ME X C E value mv)
    (hs : swapsWith value (some (.Attribute o f pos')) pos.line X.env = pure false := by rfl) : MS X C E (.Assign [.Attribute o f pos'] value pos) (setFS c j mo mv) := by
  refine PS.imp (ps_fld ho hv hs) fun D σ H ⟨ρ, st, env, re, S, p⟩ => ⟨ρ, st, env, re, S, PostS.bind p fun w s1 H1 ρ1 v hw e1 S1 r1 p1 => ?_⟩
  have re1 := re.evo e1 S.liv
  refine ⟨ρ1, s1, env, re1, S1, PostS.bind p1 fun x s2 H2 ρ2 u hx e2 S2 r2 p2 => ?_⟩
  have re2 := re1.evo e2 S1.liv
  split at p2
  · split at p2
    · rename_i c' fs es
      split at p2
      · rename_i ec
        subst ec
        cases r2 with
        | @loc a l q =>
          obtain ⟨Cd', nm', dx, fvs, q1, q2, q3⟩ := S2.obj _ a _ q es
          rw [hc] at q1; cases q1
          obtain ⟨ev, S3⟩ := ins_write (dx := dx) S2 hc nd hj q es q3 (r1.evo e2 S1.liv)
          exact ⟨a, Cd, dx, fvs, rfl, q2, cl, na, q3.small hl, p2 _ ρ2 σ ev S3 (re2.evo ev S2.liv)⟩
      · exact p2.elim
    · exact p2.elim
  · exact p2.elim
/-- o.f op= e; o.f read ahead of e -/
def augFS (c j : Nat) (f : W → W → Sto → R W) (mo mv : Ex) : Sx := fun env st => (mo env st).toS fun x s1 => (fldW c j x s1).toS fun y s2 => (mv env s2).toS fun w s3 => (f y w s3).toS fun z s4 => match x with
  | .loc l => match s4[l]? with
    | some (.ins c' fs) => if c' = c then .nx env (s4.set l (.ins c' (fs.set j (some z)))) else .no
    | _ => .no
  | _ => .no
theorem ms_fldaug {c j : Nat} {Cd : Addr} {nm : List Str} {f : Str} {op : Operator} {rd : V → V → Hp → VK → Prop} {g : W → W → Sto → R W} (hg : OpM C E rd g) (hop : InOp X op rd) (hK : C.K = X.K) (hc : C.cls[c]? = some (Cd, nm)) (nd : nm.Nodup) (hl : nm.length < 1000) (hj : nm[j]? = some f)
    (cl : Cls X.K Cd) (na : NoAttr X.K Cd f) (ho : ME X C E o mo) (hv : ME X C E value mv) : MS X C E (.AugAssign (.Attribute o f tpos) op value pos) (augFS c j g mo mv) := by
  refine PS.imp (ps_fldaug ho hv hop) fun D σ H ⟨ρ, st, env, re, S, p⟩ => ⟨ρ, st, env, re, S, PostS.bind p fun x s1 H1 ρ1 v hx e1 S1 r1 p1 => ?_⟩
  have re1 := re.evo e1 S.liv
  unfold fldW at p1
  split at p1
  · rename_i l
    split at p1
    · rename_i c' fs es
      split at p1
      · rename_i ec
        subst ec
        split at p1
        · rename_i y ew
          rw [R.toS_ok] at p1
          have rl := r1
          cases r1 with
          | @loc a l q =>
            obtain ⟨Cd', nm', dx, fvs, q1, q2, q3⟩ := S1.obj _ a _ q es
            rw [hc] at q1; cases q1
            obtain ⟨vv, l1, l2⟩ := q3.2.1 j f y hj ew
            refine ⟨a, Cd, dx, fvs, vv, rfl, q2, cl, na, l1, ?_⟩
            refine ⟨ρ1, s1, env, re1, S1, PostS.bind p1 fun w s3 H3 ρ3 u hw e3 S3 r3 p3 => ?_⟩
            have re3 := re1.evo e3 S1.liv
            refine hg H3 ρ3 s3 vv u y w _ S3 (l2.evo e3 S1.liv) r3 (PostS.bind p3 fun z s4 H4 ρ4 zv hz e4 S4 r4 p4 => ?_)
            have q4 : ρ4.pl[_]? = some a := e4.pre _ _ (e3.pre _ _ q)
            split at p4
            · rename_i c'' fs' es'
              split at p4
              · rename_i ec'
                subst ec'
                obtain ⟨Cd', nm', dx', fvs', q1', q2', q3'⟩ := S4.obj _ a _ q4 es'
                rw [hc] at q1'; cases q1'
                obtain ⟨ev, S5⟩ := ins_write (dx := dx') S4 hc nd hj q4 es' q3' r4
                exact ⟨dx', fvs', q2', q3'.small hl, p4 _ ρ4 σ ev S5 ((re3.evo e4 S3.liv).evo ev S4.liv)⟩
              · exact p4.elim
            · exact p4.elim
        · exact p1.elim
      · exact p1.elim
    · exact p1.elim
  · exact p1.elim
theorem om_rAdd : OpM C E rAdd (int0 fun i j => .int (i + j)) := by
  intro H ρ st v u x y Q S rx ry p
  unfold int0 at p
  split at p
  · cases rx; cases ry
    exact ⟨_, _, rfl, rfl, p H ρ _ (Evo.refl ..) S (.int _)⟩
  · exact p.elim
theorem om_rSub : OpM C E rSub (int0 fun i j => .int (i - j)) := by
  intro H ρ st v u x y Q S rx ry p
  unfold int0 at p
  split at p
  · cases rx; cases ry
    exact ⟨_, _, rfl, rfl, p H ρ _ (Evo.refl ..) S (.int _)⟩
  · exact p.elim

/-! ### statements -/
def sqS (a b : Sx) : Sx := fun env st => (a env st).go b
variable {s : Stmt} {ss : List Stmt} {m1 m2 : Sx}
theorem mss_nil : MSs X C E [] passS := PSs.imp pss_nil fun D σ H ⟨ρ, st, env, re, S, p⟩ => p H ρ σ (Evo.refl ..) S re
theorem mss_cons (h1 : MS X C E s m1) (h2 : MSs X C E ss m2) : MSs X C E (s :: ss) (sqS m1 m2) := by
  refine PSs.imp (pss_cons h1 h2) fun D σ H ⟨ρ, st, env, re, S, p⟩ => ⟨ρ, st, env, re, S, ?_⟩
  unfold sqS at p
  cases h : m1 env st with
  | nx env' st' => rw [h] at p; exact fun H' ρ' σ' e' S' re' => ⟨ρ', st', env', re', S', PostS.shift p e'⟩
  | rt w st' => rw [h] at p; exact p
  | bk e' st' => rw [h] at p; exact p
  | ct e' st' => rw [h] at p; exact p
  | ex c' st' => rw [h] at p; exact p
  | no => rw [h] at p; exact p
theorem mss_one (h1 : MS X C E s m1) : MSs X C E [s] m1 := pss_one h1
theorem ms_pass : MS X C E (.Pass pos) passS := PS.imp ps_pass fun D σ H ⟨ρ, st, env, re, S, p⟩ => p H ρ σ (Evo.refl ..) S re
def bkS : Sx := fun env st => .bk env st
def ctS : Sx := fun env st => .ct env st
theorem ms_break : MS X C E (.Break pos) bkS := PS.imp ps_break fun D σ H ⟨ρ, st, env, re, S, p⟩ => p H ρ σ (Evo.refl ..) S re
theorem ms_continue : MS X C E (.Continue pos) ctS := PS.imp ps_continue fun D σ H ⟨ρ, st, env, re, S, p⟩ => p H ρ σ (Evo.refl ..) S re
def exS (m : Ex) : Sx := fun env st => (m env st).toS fun _ s => .nx env s
theorem ms_expr (h : ME X C E e ma) (hs : swapsWith e none pos.line X.env = pure false := by rfl) : MS X C E (.Expr e pos) (exS ma) :=
  PS.imp (ps_expr h hs) fun D σ H ⟨ρ, st, env, re, S, p⟩ => ⟨ρ, st, env, re, S, PostS.bind p fun w s1 H1 ρ1 v hw e1 S1 r1 p1 => p1 H1 ρ1 σ (Evo.refl ..) S1 (re.evo e1 S.liv)⟩
def rtS (m : Ex) : Sx := fun env st => (m env st).toS fun w s => .rt w s
def rnS : Sx := fun _ st => .rt .non st
theorem ms_ret (h : ME X C E e ma) : MS X C E (.Return (some e) pos) (rtS ma) :=
  PS.imp (ps_ret h) fun D σ H ⟨ρ, st, env, re, S, p⟩ => ⟨ρ, st, env, re, S, PostS.bind p fun w s1 H1 ρ1 v hw e1 S1 r1 p1 => p1 H1 ρ1 v (Evo.refl ..) S1 r1⟩
theorem ms_retN : MS X C E (.Return none pos) rnS := PS.imp ps_retN fun D σ H ⟨ρ, st, env, re, S, p⟩ => p H ρ _ (Evo.refl ..) S .non
def ifS (c : Bx) (a b : Sx) : Sx := fun env st => (c env st).toS fun k s => if k = true then a env s else b env s
theorem ms_if {as bs : List Stmt} {kc : Bx} (hc : MT X C E c kc) (ha : MSs X C E as m1) (hb : MSs X C E bs m2) : MS X C E (.If c as bs pos) (ifS kc m1 m2) := by
  refine PS.imp (ps_if hc ha hb) fun D σ H ⟨ρ, st, env, re, S, p⟩ => ⟨ρ, st, env, re, S, PostS.bind (rel := relB) p fun w s1 H1 ρ1 v hw e1 S1 r1 p1 => ?_⟩
  have r1 : v = w := r1
  subst r1
  cases v with
  | true => exact (if_pos rfl).mpr ⟨ρ1, s1, env, re.evo e1 S.liv, S1, p1⟩
  | false => exact (if_neg (by decide)).mpr ⟨ρ1, s1, env, re.evo e1 S.liv, S1, p1⟩
def setS (i : Nat) (m : Ex) : Sx := fun env st => (m env st).toS fun w s => .nx (env.set i (some w)) s
theorem ms_set {i : Nat} {x : Str} {pos' : Pos} (hN : X.N.Nodup) (hi : X.N[i]? = some x) (hx : Loc X.env.scope x) (h : ME X C E e ma) (hs : swapsWith e (some (.Name x pos')) pos.line X.env = pure false := by rfl)
    (hf : X.fn x = true ∨ X.env.scope.names.lookup x = some .local := by first | exact .inl rfl | exact .inr rfl | assumption) : MS X C E (.Assign [.Name x pos'] e pos) (setS i ma) :=
  PS.imp (ps_set hN hi hx h hs hf) fun D σ H ⟨ρ, st, env, re, S, p⟩ => ⟨ρ, st, env, re, S, PostS.bind p fun w s1 H1 ρ1 v hw e1 S1 r1 p1 => p1 H1 ρ1 _ (Evo.refl ..) S1 ((re.evo e1 S.liv).set r1 i)⟩
/-! targets -/
def tMG (C : MC) (E : XK) (g : W → En → Sto → R En) : TG := fun v σ H Q => ∃ ρ st env w, RelE C.K H ρ st σ env ∧ RelS C H ρ st ∧ Rep C.K H ρ st v w ∧ Post (fun H ρ st σ env => RelE C.K H ρ st σ env) C E H ρ st (g w env st) Q
def tMGs (C : MC) (E : XK) (g : List W → En → Sto → R En) : TGs := fun vs σ H Q => ∃ ρ st env ws, RelE C.K H ρ st σ env ∧ RelS C H ρ st ∧ RepL C.K H ρ st vs ws ∧ Post (fun H ρ st σ env => RelE C.K H ρ st σ env) C E H ρ st (g ws env st) Q
def MG (X : Cx) (C : MC) (E : XK) (t : Expr) (g : W → En → Sto → R En) : Prop := PG X t (tMG C E g)
def MGs (X : Cx) (C : MC) (E : XK) (t : List Expr) (g : List W → En → Sto → R En) : Prop := PGs X t (tMGs C E g)
theorem PG.imp {e : Expr} {t t' : TG} (h : PG X e t) (k : ∀ v σ H Q, t' v σ H Q → t v σ H Q) : PG X e t' := ⟨fun pins s σ H v u Q I r q => h.run pins s σ H v u Q I r (k _ _ _ _ q)⟩
theorem PGs.imp {e : List Expr} {t t' : TGs} (h : PGs X e t) (k : ∀ v σ H Q, t' v σ H Q → t v σ H Q) : PGs X e t' := ⟨fun pins s σ H v u Q I r q => h.run pins s σ H v u Q I r (k _ _ _ _ q)⟩
def gNm (i : Nat) : W → En → Sto → R En := fun w env st => .ok (env.set i (some w)) st
theorem mg_name {i : Nat} {x : Str} (hN : X.N.Nodup) (hi : X.N[i]? = some x) (hx : Loc X.env.scope x) (hf : X.fn x = true ∨ X.env.scope.names.lookup x = some .local := by first | exact .inl rfl | exact .inr rfl | assumption) : MG X C E (.Name x pos) (gNm i) :=
  PG.imp (pg_name hN hi hx hf) fun v σ H Q ⟨ρ, st, env, w, re, S, r, p⟩ => p H ρ _ (Evo.refl ..) S (re.set r i)
def gsN : List W → En → Sto → R En := fun ws env st => match ws with
  | [] => .ok env st
  | _ => .no
def gsC (g : W → En → Sto → R En) (gs : List W → En → Sto → R En) : List W → En → Sto → R En := fun ws env st => match ws with
  | w :: ws => (g w env st).bind fun env' st' => gs ws env' st'
  | [] => .no
theorem mgs_nil : MGs X C E [] gsN := PGs.imp pgs_nil fun v σ H Q ⟨ρ, st, env, w, re, S, r, p⟩ => by
  cases r with
  | nil => exact ⟨rfl, p H ρ _ (Evo.refl ..) S re⟩
  | cons _ _ => exact p.elim
theorem mgs_cons {g : W → En → Sto → R En} {gs : List W → En → Sto → R En} (h1 : MG X C E e g) (h2 : MGs X C E es gs) (hs : (assignEach (e :: es) X.env).map (·.2) = assign e X.env :: (assignEach es X.env).map (·.2) := by rfl) : MGs X C E (e :: es) (gsC g gs) :=
  PGs.imp (pgs_cons h1 h2 hs) fun v σ H Q ⟨ρ, st, env, w, re, S, r, p⟩ => by
    cases r with
    | nil => exact p.elim
    | @cons v vs w ws r1 r2 =>
      refine ⟨v, vs, rfl, ρ, st, env, w, re, S, r1, ?_⟩
      exact Post.bind p fun env' s1 H1 ρ1 σ1 hw e1 S1 re1 p1 => ⟨ρ1, s1, env', ws, re1, S1, r2.evo e1 S.liv, p1⟩
def gTp (n : Nat) (gs : List W → En → Sto → R En) : W → En → Sto → R En := fun w env st => match w with
  | .tup ws => if ws.length = n then gs ws env st else .no
  | _ => .no
theorem mg_tup {kk n : Nat} {gs : List W → En → Sto → R En} (hK : C.K = X.K) (hc : X.calm = true) (h : MGs X C E es gs) (hn : (assignEach es X.env).length = n := by rfl) (hst : (assignEach es X.env).findIdx? (·.1) = none := by rfl) : MG X C E (.Tuple es kk pos) (gTp n gs) :=
  PG.imp (pg_tup hc h hn hst) fun v σ H Q ⟨ρ, st, env, w, re, S, r, p⟩ => by
    unfold gTp at p
    split at p
    · split at p
      · rename_i hl
        cases r with
        | tup q1 q2 => exact ⟨_, _, rfl, hK ▸ q1, by rw [q2.length]; exact hl, ρ, st, env, _, re, S, q2, p⟩
      · exact p.elim
    · exact p.elim
/-- xs[i] = .. -/
def setI (o i w : W) (s : Sto) : R Unit := match o, i with
  | .loc l, .int k => match s[l]? with
    | some (.lst ws) => match ixN ws.length k with
      | some j => .ok () (s.set l (.lst (ws.set j w)))
      | none => .no
    | _ => .no
  | _, _ => .no
def gSb (o i : Ex) : W → En → Sto → R En := fun w env st => (o env st).bind fun x s1 => (i env s1).bind fun y s2 => (setI x y w s2).bind fun _ s3 => .ok env s3
theorem mg_sub (ho : ME X C E o mo) (hi : ME X C E a ma)
    (hs : ∀ v, assign (.Subscript o a pos) X.env v = (do
      let ov ← holding [v] (eval o X.env)
      let iv ← holding [v, ov] (eval a X.env)
      standAt pos
      holding [v, ov, iv] (setItem ov iv v)
      release [v, ov, iv] []) := by intro _; rfl) : MG X C E (.Subscript o a pos) (gSb mo ma) :=
  PG.imp (pg_sub ho hi set_list hs) fun v σ H Q ⟨ρ, st, env, w, re, S, r, p⟩ => by
    refine ⟨ρ, st, env, re, S, Post.bind p fun x s1 H1 ρ1 vx hx e1 S1 r1 p1 => ?_⟩
    have re1 := re.evo e1 S.liv
    refine ⟨ρ1, s1, env, re1, S1, Post.bind p1 fun y s2 H2 ρ2 vy hy e2 S2 r2 p2 => ?_⟩
    have re2 := re1.evo e2 S1.liv
    have rx := r1.evo e2 S1.liv
    have rw_ := (r.evo e1 S.liv).evo e2 S1.liv
    unfold setI at p2
    split at p2
    · split at p2
      · rename_i ws es
        split at p2
        · rename_i j hj
          cases r2
          cases rx with
          | @loc a l q =>
            obtain ⟨zs, hz, rz⟩ := S2.obj _ a _ q es
            obtain ⟨ev, S3⟩ := lst_write S2 q es (rz.set rw_ j)
            exact ⟨a, zs, _, j, rfl, rfl, hz, by rw [rz.length]; exact hj, p2 _ ρ2 σ ev S3 (re2.evo ev S2.liv)⟩
        · exact p2.elim
      · exact p2.elim
    · exact p2.elim
def asgS (m : Ex) (g : W → En → Sto → R En) : Sx := fun env st => (m env st).toS fun w s => (g w env s).toS fun env' s' => .nx env' s'
theorem ms_asg {t : Expr} {g : W → En → Sto → R En} (h : ME X C E e ma) (hg : MG X C E t g) (hs : swapsWithSole [t] e pos.line X.env = pure false := by rfl) (hw : swappedStores [t] e X.env = pure none := by rfl)
    (h1 : (assignEach [t] X.env).map (·.2) = [assign t X.env] := by rfl) : MS X C E (.Assign [t] e pos) (asgS ma g) :=
  PS.imp (ps_asg h hg hs hw h1) fun D σ H ⟨ρ, st, env, re, S, p⟩ => ⟨ρ, st, env, re, S, PostS.bind p fun w s1 H1 ρ1 v hw e1 S1 r1 p1 =>
    ⟨ρ1, s1, env, w, re.evo e1 S.liv, S1, r1, PostS.bind p1 fun env' s2 H2 ρ2 σ2 hw2 e2 S2 re2 p2 => p2 H2 ρ2 σ2 (Evo.refl ..) S2 re2⟩⟩
/-- a, b = x, y: plain names -/
def parS (i j : Nat) (m : Ax) : Sx := fun env st => (m env st).toS fun ws s => match ws with
  | [v, w] => .nx ((env.set i (some v)).set j (some w)) s
  | _ => .no
theorem ms_par {i j : Nat} {x y : Str} {px py pt : Pos} {kt k2 pt2} (hc : X.calm = true) (hN : X.N.Nodup) (hi : X.N[i]? = some x) (hj : X.N[j]? = some y) (hij : i ≠ j)
    (hx : X.env.scope.names.lookup x = some .local) (hy : X.env.scope.names.lookup y = some .local) (ha : MA' X C E [a, b] mr)
    (hw : swappedStores [.Tuple [.Name x px, .Name y py] kt pt] (.Tuple [a, b] k2 pt2) X.env = pure (some [x, y]))
    (hs : swapsWithSole [.Tuple [.Name x px, .Name y py] kt pt] (.Tuple [a, b] k2 pt2) pos.line X.env = pure false := by rfl) :
    MS X C E (.Assign [.Tuple [.Name x px, .Name y py] kt pt] (.Tuple [a, b] k2 pt2) pos) (parS i j mr) :=
  PS.imp (ps_par hc hN hi hj hij hx hy ha.pa hw hs) fun D σ H ⟨ρ, st, env, re, S, p⟩ => ⟨ρ, st, env, re, S, PostS.bind p fun ws s1 H1 ρ1 vs hw e1 S1 r1 p1 => by
    split at p1
    · obtain ⟨v, u, rfl, q1, q2⟩ := r1.two
      exact ⟨v, u, rfl, p1 H1 ρ1 _ (Evo.refl ..) S1 (((re.evo e1 S.liv).set q1 i).set q2 j)⟩
    · exact p1.elim⟩
/-- name op= e -/
def augS (i : Nat) (f : W → W → Sto → R W) (m : Ex) : Sx := fun env st => (vr i env st).toS fun x s0 => (m env s0).toS fun y s1 => (f x y s1).toS fun z s2 => .nx (env.set i (some z)) s2
theorem ms_aug {i : Nat} {x : Str} {op : Operator} {ti : TIp} {pos' : Pos} {f : W → W → Sto → R W} (hN : X.N.Nodup) (hi : X.N[i]? = some x) (hx : Loc X.env.scope x) (he : ME X C E e ma) (ho : PIp X op ti) (hf' : OpM C E ti f)
    (hf : X.fn x = true ∨ X.env.scope.names.lookup x = some .local := by first | exact .inl rfl | exact .inr rfl | assumption) : MS X C E (.AugAssign (.Name x pos') op e pos) (augS i f ma) :=
  PS.imp (ps_aug hN hi hx he ho hf) fun D σ H ⟨ρ, st, env, re, S, p⟩ => by
    unfold augS vr at p
    split at p
    · rename_i w ew
      rw [R.toS_ok] at p
      obtain ⟨v, q, r⟩ := re.2 i w ew
      refine ⟨v, q, ρ, st, env, re, S, PostS.bind p fun y s1 H1 ρ1 u hw e1 S1 r1 p1 => ?_⟩
      refine hf' H1 ρ1 s1 v u w y _ S1 (r.evo e1 S.liv) r1 (PostS.bind p1 fun z s2 H2 ρ2 zv hz e2 S2 r2 p2 => ?_)
      exact p2 H2 ρ2 _ (Evo.refl ..) S2 (((re.evo e1 S.liv).evo e2 S1.liv).set r2 i)
    · exact p.elim
theorem om_ipI {g : Int → Int → Int} : OpM C E (ipI g) (int0 fun i j => .int (g i j)) := by
  intro H ρ st v u x y Q S rx ry p
  unfold int0 at p
  split at p
  · cases rx; cases ry
    exact ⟨_, _, rfl, rfl, p H ρ _ (Evo.refl ..) S (.int _)⟩
  · exact p.elim
end
end
end ML

/-! ML5: loops, comprehensions, defs -/
namespace ML
open PySem L2
noncomputable section
variable {X : Cx} {C : MC} {E : XK} {a b c e o value : Expr} {ma mb mc mo mv : Ex} {pos pos' tpos : Pos} {es : List Expr} {mr : Ax}
/-! ### while: with a number of turns that is enough -/
def lpS (b : Sx) (k : Sx) : Sx := fun env st => (b env st).lp k
def whF (c : Bx) (b : Sx) : Nat → Sx
  | 0 => fun _ _ => .no
  | n + 1 => fun env st => (c env st).toS fun k s1 => if k = true then lpS b (whF c b n) env s1 else .nx env s1
def whS (fuel : En → Sto → Nat) (c : Bx) (b : Sx) : Sx := fun env st => whF c b (fuel env st) env st
/-- a loop's body, what comes behind it known -/
theorem lp_of {H : Hp} {ρ : Pl} {st : Sto} {σ : St} {env : En} {b k : Sx} {D : Ends} {N : St → Hp → Prop} (re : RelE C.K H ρ st σ env) (S : RelS C H ρ st) (p : PostS C E H ρ st (lpS b k env st) D)
    (hN : ∀ H' ρ' σ' env' st', RelE C.K H' ρ' st' σ' env' → RelS C H' ρ' st' → PostS C E H' ρ' st' (k env' st') D → N σ' H') : tMS C E b { D with nx := N, ct := N, bk := D.nx } σ H := by
  refine ⟨ρ, st, env, re, S, ?_⟩
  unfold lpS at p
  cases h : b env st with
  | nx env' st' => rw [h] at p; exact fun H' ρ' σ' e' S' re' => hN _ _ _ _ _ re' S' (PostS.shift p e')
  | ct env' st' => rw [h] at p; exact fun H' ρ' σ' e' S' re' => hN _ _ _ _ _ re' S' (PostS.shift p e')
  | bk env' st' => rw [h] at p; exact p
  | rt w st' => rw [h] at p; exact p
  | ex c' st' => rw [h] at p; exact p
  | no => rw [h] at p; exact p
theorem ms_while (fuel : En → Sto → Nat) {body : List Stmt} {kc : Bx} {mb : Sx} (hp : PassesOwn (model X.prog X.w) X.A X.env X.xe) (hc : MT X C E c kc) (hb : MSs X C E body mb) : MS X C E (.While c body [] pos) (whS fuel kc mb) := by
  refine PS.imp (ps_while hp hc hb) fun D σ H ⟨ρ, st, env, re, S, p⟩ => ?_
  refine ⟨fun m σ H => ∃ ρ st env, RelE C.K H ρ st σ env ∧ RelS C H ρ st ∧ PostS C E H ρ st (whF kc mb m env st) D, ⟨fuel env st, ρ, st, env, re, S, p⟩, ?_⟩
  rintro m σ H ⟨ρ, st, env, re, S, p⟩
  cases m with
  | zero => exact p.elim
  | succ n =>
    refine ⟨ρ, st, env, re, S, PostS.bind (rel := relB) p fun k s1 H1 ρ1 v hk e1 S1 r1 p1 => ?_⟩
    have r1 : v = k := r1
    subst r1
    cases v with
    | false => exact (if_neg (by decide)).mpr (p1 H1 ρ1 σ (Evo.refl ..) S1 (re.evo e1 S.liv))
    | true =>
      refine (if_pos rfl).mpr ⟨fun σ' H' => ∃ ρ st env, RelE C.K H' ρ st σ' env ∧ RelS C H' ρ st ∧ PostS C E H' ρ st (whF kc mb n env st) D, fun σ' H' q => ⟨n, Nat.lt_succ_self n, q⟩, ?_⟩
      exact lp_of (re.evo e1 S.liv) S1 p1 fun H' ρ' σ' env' st' re' S' p' => ⟨ρ', st', env', re', S', p'⟩

/-! ### what is walked -/
/-- known items, or what is read off the state at each turn (with a number of turns that is enough) -/
inductive Src where
  | st (ws : List W)
  | dy (n : Nat) (f : Nat → Sto → Option (Option W))
def Src.at : Src → Nat → Sto → Option (Option W)
  | .st ws, i, _ => some ws[i]?
  | .dy _ f, i, s => f i s
def Src.n : Src → Nat
  | .st ws => ws.length + 1
  | .dy n _ => n
def ItRel (C : MC) (J : It) (H : Hp) (ρ : Pl) (st : Sto) (src : Src) : Prop := ∀ H' ρ' st', Evo H ρ st H' ρ' st' → RelS C H' ρ' st' → ∀ (i : Nat) (o : Option W), src.at i st' = some o → match o with
  | some w => J.go i H' ∧ ∀ x H'', J.yld i H' x H'' → Evo H' ρ' st' H'' ρ' st' ∧ RelS C H'' ρ' st' ∧ Rep C.K H'' ρ' st' x w
  | none => J.stop i H'
theorem ItRel.evo {J : It} {H H' : Hp} {ρ ρ' : Pl} {st st' : Sto} {src : Src} (h : ItRel C J H ρ st src) (e : Evo H ρ st H' ρ' st') : ItRel C J H' ρ' st' src := fun H2 ρ2 st2 e2 => h H2 ρ2 st2 (e.trans e2)
abbrev Ix := En → Sto → R Src
abbrev relSrc (C : MC) : Hp → Pl → Sto → It → Src → Prop := fun H ρ st J src => ItRel C J H ρ st src
def tMI (C : MC) (E : XK) (m : Ix) : TI := fun σ H R => ∃ ρ st env, RelE C.K H ρ st σ env ∧ RelS C H ρ st ∧ Post (relSrc C) C E H ρ st (m env st) R
def MI (X : Cx) (C : MC) (E : XK) (tg iter : Expr) (m : Ix) : Prop := PI X tg iter (tMI C E m)
theorem PI.imp {tg iter : Expr} {t t' : TI} (h : PI X tg iter t) (k : ∀ σ H R, t' σ H R → t σ H R) : PI X tg iter t' := ⟨fun pins s σ H R I q => h.run pins s σ H R I (k _ _ _ q)⟩
/-- a list or a tuple -/
theorem pi_seq {tg l : Expr} {tl : TE} (hl : PE X l tl) : PI X tg l (fun σ H R => tl σ H fun x H1 => ∃ a, x = .ref a ∧ (((∃ xs, SqL X.K H1 a xs) ∧ R (Itl X.K a) H1) ∨ ((∃ xs, SqT X.K H1 a xs) ∧ R (Itt X.K a) H1))) := by
  constructor
  intro pins s σ H R I h
  refine thn (hl.run pins s σ H _ I h) fun v s1 ⟨x, H1, I1, r1, a, ex, q⟩ => ?_
  subst ex
  cases r1
  have fp : ∀ b ∈ [s1.heap.objs.size], FpOk X pins H1 b := fun b hb => (List.mem_singleton.mp hb).symm ▸ I1.fpOk (Nat.le_refl _) (I1.hok.fresh (Nat.le_refl _))
  rcases q with ⟨⟨xs, hq⟩, q⟩ | ⟨⟨xs, hq⟩, q⟩
  · obtain ⟨its, rv, p, hz⟩ := I1.list hq
    exact wpAny_pyIter_list p.isList ⟨_, [_], _, _, H1, rfl, I1.kept (t' := s1.toks) fun b o e => Heap.get?_push_of_some _ e, turn_list a _, ⟨_, Heap.get?_push_size _ rfl, rfl, rfl⟩, fp, q⟩
  · obtain ⟨its, rv, p, hz⟩ := I1.tuple hq
    exact wpAny_pyIter_tuple (show s1.heap.IsTuple a its.toArray from p) ⟨_, [_], _, _, H1, rfl, I1.kept (t' := s1.toks) fun b o e => Heap.get?_push_of_some _ e, turn_tuple a _, ⟨_, Heap.get?_push_size _ rfl, rfl, rfl⟩, fp, q⟩
def srcL (g : Nat → W → W) (w : W) (s : Sto) : Option Src := match w with
  | .fl ws => some (.st (ws.zipIdx.map fun p => g p.2 p.1))
  | .kl ws => some (.st (ws.zipIdx.map fun p => g p.2 p.1))
  | w => match lstOf s w with
    | some ws => some (.dy (ws.length + 1) fun i st' => (lstOf st' w).map fun ws => ws[i]?.map (g i))
    | none => none
theorem srcL_lst {g : Nat → W → W} {w : W} {s : Sto} {src : Src} (h : srcL g w s = some src) : ∃ ws, lstK s w = some ws := by
  unfold srcL at h
  cases w with
  | fl ws => exact ⟨ws, rfl⟩
  | kl ws => exact ⟨ws, rfl⟩
  | loc l =>
    simp only at h
    split at h
    · rename_i ws e; exact ⟨ws, e⟩
    · cases h
  | _ => simp [lstOf] at h
theorem srcL_at {g : Nat → W → W} {w : W} {s : Sto} {src : Src} (h : srcL g w s = some src) {st' : Sto} {i : Nat} {o : Option W} (ho : src.at i st' = some o) : ∃ ws, lstK st' w = some ws ∧ o = ws[i]?.map (g i) := by
  unfold srcL at h
  cases w with
  | fl ws => cases h; cases ho; exact ⟨ws, rfl, by simp [List.getElem?_map, List.getElem?_zipIdx]; rfl⟩
  | kl ws => cases h; cases ho; exact ⟨ws, rfl, by simp [List.getElem?_map, List.getElem?_zipIdx]; rfl⟩
  | loc l =>
    simp only at h
    split at h
    · cases h
      have ho : (lstOf st' (.loc l)).map (fun ws => ws[i]?.map (g i)) = some o := ho
      rw [Option.map_eq_some_iff] at ho
      obtain ⟨ws, e, q⟩ := ho
      exact ⟨ws, e, q.symm⟩
    · cases h
  | _ => simp [lstOf] at h
def sqI (m : Ex) : Ix := fun env st => (m env st).bind fun w s => match w with
  | .tup ws => .ok (.st ws) s
  | .fl ws => .ok (.st ws) s
  | .kl ws => .ok (.st ws) s
  | w => match srcL (fun _ w => w) w s with
    | some src => .ok src s
    | none => .no
theorem itl_rel {H : Hp} {ρ : Pl} {st s : Sto} {a : Addr} {w : W} {src : Src} (S : RelS C H ρ st) (r : Rep C.K H ρ st (.ref a) w) (h : ∀ st' i o, src.at i st' = some o → ∃ ws, lstK st' w = some ws ∧ o = ws[i]?) : ItRel C (Itl C.K a) H ρ st src := by
  intro H' ρ' st' ev S' i o ho
  have r' := r.evo ev S.liv
  obtain ⟨ws, e, eo⟩ := h _ _ _ ho
  obtain ⟨a', vs', ea, q', rr⟩ := lstK_rep S' r' e
  cases ea
  subst eo
  cases ei : ws[i]? with
  | none => exact ⟨vs', q', by rw [rr.length]; exact List.getElem?_eq_none_iff.mp ei⟩
  | some x =>
    obtain ⟨v, hv, rv⟩ := rr.get ei
    refine ⟨⟨vs', v, q', hv⟩, fun y H'' hy => ?_⟩
    obtain ⟨eH, hy⟩ := hy
    have := hy vs' q'
    rw [hv] at this; cases this
    rw [eH]
    exact ⟨Evo.refl .., S', rv⟩
theorem itt_rel {H : Hp} {ρ : Pl} {st : Sto} {a : Addr} {vs : List V} {ws : List W} (S : RelS C H ρ st) (q : SqT C.K H a vs) (r : RepL C.K H ρ st vs ws) : ItRel C (Itt C.K a) H ρ st (.st ws) := by
  intro H' ρ' st' ev S' i o ho
  have q' := SqT.evo ev S.liv q
  have rr := r.evo ev S.liv
  cases ho
  cases ei : ws[i]? with
  | none => exact ⟨vs, q', by rw [rr.length]; exact List.getElem?_eq_none_iff.mp ei⟩
  | some x =>
    obtain ⟨v, hv, rv⟩ := rr.get ei
    refine ⟨⟨vs, v, q', hv⟩, fun y H'' hy => ?_⟩
    obtain ⟨eH, hy⟩ := hy
    have := hy vs q'
    rw [hv] at this; cases this
    rw [eH]
    exact ⟨Evo.refl .., S', rv⟩
theorem mi_seq {tg l : Expr} {ml : Ex} (hK : C.K = X.K) (hl : ME X C E l ml) : MI X C E tg l (sqI ml) := by
  refine PI.imp (pi_seq hl) fun σ H R ⟨ρ, st, env, re, S, p⟩ => ⟨ρ, st, env, re, S, Post.bind (rel := relW C) p fun w s1 H1 ρ1 v hw e1 S1 r1 p1 => ?_⟩
  rw [← hK]
  have lk : ∀ ws, lstK s1 w = some ws → Post (relSrc C) C E H1 ρ1 s1 (.ok (.st ws) s1) R → (∀ st', lstK st' w = some ws) → ∃ a, v = .ref a ∧ (((∃ xs, SqL C.K H1 a xs) ∧ R (Itl C.K a) H1) ∨ ((∃ xs, SqT C.K H1 a xs) ∧ R (Itt C.K a) H1)) := fun ws h p hk => by
    obtain ⟨a, vs, rfl, q, r⟩ := lstK_rep S1 r1 h
    exact ⟨a, rfl, .inl ⟨⟨vs, q⟩, p H1 ρ1 _ (Evo.refl ..) S1 (itl_rel (s := s1) S1 r1 fun st' i o ho => ⟨ws, hk st', by cases ho; rfl⟩)⟩⟩
  split at p1
  · cases r1 with
    | tup q r => exact ⟨_, rfl, .inr ⟨⟨_, q⟩, p1 H1 ρ1 _ (Evo.refl ..) S1 (itt_rel S1 q r)⟩⟩
  · exact lk _ rfl p1 fun _ => rfl
  · exact lk _ rfl p1 fun _ => rfl
  · split at p1
    · rename_i src e0
      obtain ⟨ws, ek⟩ := srcL_lst e0
      obtain ⟨a, vs, rfl, q, r⟩ := lstK_rep S1 r1 ek
      exact ⟨a, rfl, .inl ⟨⟨vs, q⟩, p1 H1 ρ1 _ (Evo.refl ..) S1 (itl_rel (s := s1) S1 r1 fun st' i o ho => by
        obtain ⟨ws, h1, h2⟩ := srcL_at e0 ho
        exact ⟨ws, h1, by rw [h2]; simp⟩)⟩⟩
    · exact p1.elim
/-- range -/
def rngL (lo : Int) (n : Nat) : List W := (List.range n).map fun (i : Nat) => W.int (lo + (i : Int))
theorem itr_rel {H : Hp} {ρ : Pl} {st : Sto} {lo : Int} {n : Nat} : ItRel C (Itr lo n) H ρ st (.st (rngL lo n)) := by
  intro H' ρ' st' ev S' i o ho
  cases ho
  unfold rngL
  rw [List.getElem?_map]
  by_cases hi : i < n
  · rw [List.getElem?_range hi]
    refine ⟨hi, fun x H'' hy => ?_⟩
    obtain ⟨e1, e2⟩ := hy
    rw [e1, e2]
    exact ⟨Evo.refl .., S', .int _⟩
  · rw [List.getElem?_eq_none_iff.mpr (by simpa using hi)]
    exact Nat.le_of_not_lt hi
def smI (j : Int) : Bool := ck (-(2 ^ 62) ≤ j ∧ j < 2 ^ 62)
def rg1 (m : Ax) : Ix := fun env st => (m env st).bind fun ws s => match ws with
  | [.int j] => if smI j = true then .ok (.st (rngL 0 j.toNat)) s else .no
  | _ => .no
theorem smI_ok {j : Int} (h : smI j = true) : -(2 ^ 62) ≤ j ∧ j < 2 ^ 62 := by
  unfold smI at h
  rw [ck_iff] at h
  exact h
theorem mi_range1 {tg : Expr} {p pos : Pos} (hg : Gl X "range") (hm : X.mg "range" = none) (ha : MA' X C E [a] mr) (hs : starEach [a] X.env = [(false, eval a X.env)] := by rfl) : MI X C E tg (.Call (.Name "range" p) [a] [] pos) (rg1 mr) := by
  refine PI.imp (pi_range1 hg hm ha.pa hs) fun σ H R ⟨ρ, st, env, re, S, p⟩ => ⟨ρ, st, env, re, S, Post.bind p fun ws s1 H1 ρ1 vs hw e1 S1 r1 p1 => ?_⟩
  split at p1
  · split at p1
    · rename_i h
      obtain ⟨v, rfl, r⟩ := r1.one
      cases r
      obtain ⟨h1, h2⟩ := smI_ok h
      exact ⟨_, rfl, h1, h2, p1 H1 ρ1 _ (Evo.refl ..) S1 itr_rel⟩
    · exact p1.elim
  · exact p1.elim
def rg2 (m : Ax) : Ix := fun env st => (m env st).bind fun ws s => match ws with
  | [.int i, .int j] => if smI i = true ∧ smI j = true then .ok (.st (rngL i (j - i).toNat)) s else .no
  | _ => .no
theorem mi_range2 {tg : Expr} {p pos : Pos} (hg : Gl X "range") (hm : X.mg "range" = none) (ha : MA' X C E [a, b] mr) (hs : starEach [a, b] X.env = [(false, eval a X.env), (false, eval b X.env)] := by rfl) (hs2 : starEach [b] X.env = [(false, eval b X.env)] := by rfl) : MI X C E tg (.Call (.Name "range" p) [a, b] [] pos) (rg2 mr) := by
  refine PI.imp (pi_range2 hg hm ha.pa hs hs2) fun σ H R ⟨ρ, st, env, re, S, p⟩ => ⟨ρ, st, env, re, S, Post.bind p fun ws s1 H1 ρ1 vs hw e1 S1 r1 p1 => ?_⟩
  split at p1
  · split at p1
    · rename_i h
      obtain ⟨v, u, rfl, r, q⟩ := r1.two
      cases r; cases q
      obtain ⟨h1, h2⟩ := smI_ok h.1
      obtain ⟨h3, h4⟩ := smI_ok h.2
      exact ⟨_, _, rfl, ⟨h1, h2, h3, h4⟩, p1 H1 ρ1 _ (Evo.refl ..) S1 itr_rel⟩
    · exact p1.elim
  · exact p1.elim

/-! ### for -/
def forL (g : W → En → Sto → R En) (b : Sx) : List W → Sx
  | [] => fun env st => .nx env st
  | w :: ws => fun env st => (g w env st).toS fun env1 st1 => lpS b (forL g b ws) env1 st1
def forF (f : Nat → Sto → Option (Option W)) (g : W → En → Sto → R En) (b : Sx) : Nat → Nat → Sx
  | 0, _ => fun _ _ => .no
  | n + 1, i => fun env st => match f i st with
    | some (some w) => (g w env st).toS fun env1 st1 => lpS b (forF f g b n (i + 1)) env1 st1
    | some none => .nx env st
    | none => .no
def forS (m : Ix) (g : W → En → Sto → R En) (b : Sx) : Sx := fun env st => (m env st).toS fun src s1 => match src with
  | .st ws => forL g b ws env s1
  | .dy n f => forF f g b n 0 env s1
theorem forL_F {g : W → En → Sto → R En} {b : Sx} {ws : List W} : ∀ (n i : Nat), ws.length < n + i → i ≤ ws.length → forL g b (ws.drop i) = forF (fun i _ => some ws[i]?) g b n i := by
  intro n
  induction n with
  | zero => intro i h1 h2; omega
  | succ n ih =>
    intro i h1 h2
    funext env st
    by_cases hi : i < ws.length
    · rw [List.drop_eq_getElem_cons hi]
      have e : ws[i]? = some ws[i] := by simp [hi]
      show (g ws[i] env st).toS (fun env1 st1 => lpS b (forL g b (ws.drop (i + 1))) env1 st1) = (match some ws[i]? with
        | some (some w) => (g w env st).toS fun env1 st1 => lpS b (forF (fun i _ => some ws[i]?) g b n (i + 1)) env1 st1
        | some none => .nx env st
        | none => .no)
      rw [e, ih (i + 1) (by omega) (by omega)]
    · have e : ws[i]? = none := List.getElem?_eq_none_iff.mpr (by omega)
      have ed : ws.drop i = [] := List.drop_eq_nil_of_le (by omega)
      rw [ed]
      show SR.nx env st = (match some ws[i]? with
        | some (some w) => (g w env st).toS fun env1 st1 => lpS b (forF (fun i _ => some ws[i]?) g b n (i + 1)) env1 st1
        | some none => .nx env st
        | none => .no)
      rw [e]
theorem ms_for {tg iter : Expr} {body : List Stmt} {mi : Ix} {g : W → En → Sto → R En} {mb : Sx} (hp : PassesOwn (model X.prog X.w) X.A X.env X.xe) (hc : X.calm = true) (hi : MI X C E tg iter mi) (hg : MG X C E tg g) (hb : MSs X C E body mb) (hs : ∀ x, foldedSetIterable iter X.env x = pure x := by intro _; rfl) :
    MS X C E (.For tg iter body [] pos) (forS mi g mb) := by
  refine PS.imp (ps_for hp hc hi hg hb (hs := hs)) fun D σ H ⟨ρ, st, env, re, S, p⟩ => ⟨ρ, st, env, re, S, PostS.bind (rel := relSrc C) p fun src s1 H1 ρ1 J hj e1 S1 r1 p1 => ?_⟩
  have p1' : PostS C E H1 ρ1 s1 (forF src.at g mb src.n 0 env s1) D := by
    cases src with
    | st ws =>
      have e := forL_F (g := g) (b := mb) (ws := ws) (ws.length + 1) 0 (by omega) (by omega)
      rw [List.drop_zero] at e
      show PostS C E H1 ρ1 s1 (forF (fun i _ => some ws[i]?) g mb (ws.length + 1) 0 env s1) D
      rw [← e]
      exact p1
    | dy n f => exact p1
  refine ⟨fun i m σ H => ∃ ρ st env, RelE C.K H ρ st σ env ∧ RelS C H ρ st ∧ ItRel C J H ρ st src ∧ PostS C E H ρ st (forF src.at g mb m i env st) D, ⟨src.n, ρ1, s1, env, re.evo e1 S.liv, S1, r1, p1'⟩, ?_⟩
  rintro i m σ H ⟨ρ, st, env, re, S, rj, p⟩
  cases m with
  | zero => exact p.elim
  | succ n =>
    unfold forF at p
    cases e : src.at i st with
    | none => rw [e] at p; exact p.elim
    | some o =>
      have q := rj H ρ st (Evo.refl ..) S i o e
      rw [e] at p
      cases o with
      | none => exact .inl ⟨q, p H ρ σ (Evo.refl ..) S re⟩
      | some w =>
        refine .inr ⟨q.1, fun σ' H' => ∃ ρ st env, RelE C.K H' ρ st σ' env ∧ RelS C H' ρ st ∧ ItRel C J H' ρ st src ∧ PostS C E H' ρ st (forF src.at g mb n (i + 1) env st) D, fun σ' H' q => ⟨n, Nat.lt_succ_self n, q⟩, fun x H' hy => ?_⟩
        obtain ⟨ev, S', rx⟩ := q.2 x H' hy
        refine ⟨ρ, st, env, w, re.evo ev S.liv, S', rx, PostS.bind (PostS.shift p ev) fun env1 s2 H2 ρ2 σ2 hw e2 S2 re2 p2 => ?_⟩
        have rj2 := (rj.evo ev).evo e2
        have base : Evo H2 ρ2 s2 H2 ρ2 s2 := Evo.refl ..
        refine ⟨ρ2, s2, env1, re2, S2, ?_⟩
        unfold lpS at p2
        cases h : mb env1 s2 with
        | nx env' st' => rw [h] at p2; exact fun H' ρ' σ' e' S' re' => ⟨ρ', st', env', re', S', rj2.evo e', PostS.shift p2 e'⟩
        | ct env' st' => rw [h] at p2; exact fun H' ρ' σ' e' S' re' => ⟨ρ', st', env', re', S', rj2.evo e', PostS.shift p2 e'⟩
        | bk env' st' => rw [h] at p2; exact p2
        | rt w st' => rw [h] at p2; exact p2
        | ex c' st' => rw [h] at p2; exact p2
        | no => rw [h] at p2; exact p2
end
end ML

/-! ML6: comprehensions, enumerate, zip, defs -/
namespace ML
open PySem L2
noncomputable section
section
variable {α β γ δ : Type} {rel : Hp → Pl → Sto → β → α → Prop} {rel' : Hp → Pl → Sto → δ → γ → Prop} {C : MC} {E : XK} {H Hc : Hp} {ρ ρc : Pl} {st stc : Sto} {r : R α} {Q : β → Hp → Prop}
/-- a result at a later state, what follows still said of the first one -/
theorem Post.bindAt {f : α → Sto → R γ} {Q' : δ → Hp → Prop} (h : Post rel' C E H ρ st (r.bind f) Q') (ev : Evo H ρ st Hc ρc stc)
    (k : ∀ (w : α) (st1 : Sto) (H1 : Hp) (ρ1 : Pl) (v : β), r = .ok w st1 → Evo Hc ρc stc H1 ρ1 st1 → RelS C H1 ρ1 st1 → rel H1 ρ1 st1 v w → Post rel' C E H ρ st (f w st1) Q' → Q v H1) : Post rel C E Hc ρc stc r Q := by
  cases r with
  | ok w st' => exact fun H' ρ' v e s q => k w st' H' ρ' v rfl e s q h
  | ex c st' => exact fun H' ρ' a e s q => h H' ρ' a (ev.trans e) s q
  | no => exact h
end
section
variable {X : Cx} {C : MC} {E : XK} {a b c e o value : Expr} {ma mb mc mo mv : Ex} {pos pos' tpos : Pos} {es : List Expr} {mr : Ax}

/-! ### targets of a comprehension: names -/
/-- how a target sets slots, in both worlds -/
structure CT (K : PySem.W.Frag) (vs : List Nat) (g : TG) (f : W → En → Option En) : Prop where
  ok : ∀ (H : Hp) (ρ : Pl) (st : Sto) (σ : St) (env env1 : En) (v : V) (w : W) (Q : St → Hp → Prop), RelE K H ρ st σ env → Rep K H ρ st v w → f w env = some env1 →
    (∀ σ1, RelE K H ρ st σ1 env1 → wipe σ1 vs = wipe σ vs → Q σ1 H) → g v σ H Q
def ct1 (i : Nat) : W → En → Option En := fun w env => some (env.set i (some w))
theorem wipe_set {σ : St} {i : Nat} {o : Option V} : ∀ {vs : List Nat}, i ∈ vs → wipe (σ.set i o) vs = wipe σ vs
  | v :: vs, h => by
    unfold wipe
    by_cases e : i ∈ vs
    · rw [wipe_set e]
    · have hv : i = v := (List.mem_cons.mp h).resolve_right e
      subst hv
      have key : ∀ us : List Nat, i ∉ us → ∀ τ : St, wipe (τ.set i o) us = (wipe τ us).set i o := by
        intro us
        induction us with
        | nil => intro _ τ; rfl
        | cons u us ih =>
          intro hn τ
          unfold wipe
          have ne : i ≠ u := fun z => hn (by rw [z]; exact List.mem_cons_self)
          rw [ih (fun z => hn (List.mem_cons_of_mem _ z)), List.set_comm _ _ ne]
      rw [key vs e, List.set_set]
theorem ct_name {K : PySem.W.Frag} {vs : List Nat} {i : Nat} (h : i ∈ vs) : CT K vs (gName i) (ct1 i) :=
  ⟨fun H ρ st σ env env1 v w Q re r e k => by cases e; exact k _ (re.set r i) (wipe_set h)⟩
def ct2 (i j : Nat) : W → En → Option En := fun w env => match w with
  | .tup [x, y] => some ((env.set i (some x)).set j (some y))
  | _ => none
theorem ct_pair {K : PySem.W.Frag} {vs : List Nat} {i j : Nat} (hi : i ∈ vs) (hj : j ∈ vs) : CT K vs (gTup K 2 (gCons (gName i) (gCons (gName j) gNil))) (ct2 i j) :=
  ⟨fun H ρ st σ env env1 v w Q re r e k => by
    unfold ct2 at e
    split at e
    · cases e
      cases r with
      | tup q r =>
        obtain ⟨v1, v2, rfl, r1, r2⟩ := r.two
        exact ⟨_, _, rfl, q, rfl, v1, [v2], rfl, v2, [], rfl, rfl, k _ ((re.set r1 i).set r2 j) (by rw [wipe_set hj, wipe_set hi])⟩
    · cases e⟩
/-! ### [e for .. in .. if ..] -/
def wipeE (env : En) : List Nat → En
  | [] => env
  | v :: vs => (wipeE env vs).set v none
def lcF (f : Nat → Sto → Option (Option W)) (g : W → En → Option En) (t : Bx) (e : Ex) (env : En) : Nat → Nat → List W → Sto → R (List W)
  | 0, _, _, _ => .no
  | n + 1, i, acc, st => match f i st with
    | some (some w) => match g w env with
      | some env1 => (t env1 st).bind fun k s1 => if k = true then (e env1 s1).bind fun y s2 => if ck (acc.length < 10000000) = true then lcF f g t e env n (i + 1) (acc ++ [y]) s2 else .no else lcF f g t e env n (i + 1) acc s1
      | none => .no
    | some none => .ok acc st
    | none => .no
/-- over known items: what is made, front to back -/
def lcL (g : W → En → Option En) (t : Bx) (e : Ex) (env : En) : List W → Sto → R (List W)
  | [], st => .ok [] st
  | w :: ws, st => match g w env with
    | some env1 => (t env1 st).bind fun k s1 => if k = true then (e env1 s1).bind fun y s2 => (lcL g t e env ws s2).bind fun ys s3 => .ok (y :: ys) s3 else lcL g t e env ws s1
    | none => .no
def lcS (vs : List Nat) (m : Ix) (g : W → En → Option En) (t : Bx) (e : Ex) : Ax := fun env st => (m env st).bind fun src s1 => match src with
  | .st ws => if ck (ws.length < 10000000) = true then lcL g t e (wipeE env vs) ws s1 else .no
  | .dy n f => lcF f g t e (wipeE env vs) n 0 [] s1
def yesB : Bx := fun _ st => .ok true st
theorem wipeE_get {env : En} {i : Nat} {w : W} : ∀ {vs : List Nat}, (wipeE env vs)[i]? = some (some w) → env[i]? = some (some w) ∧ i ∉ vs
  | [], h => ⟨h, by simp⟩
  | v :: vs, h => by
    unfold wipeE at h
    by_cases z : v = i
    · subst z
      rw [List.getElem?_set] at h
      simp only [if_true] at h
      split at h <;> cases h
    · rw [List.getElem?_set_ne z] at h
      obtain ⟨h1, h2⟩ := wipeE_get h
      exact ⟨h1, fun hm => by rcases List.mem_cons.mp hm with q | q; exact z q.symm; exact h2 q⟩
theorem wipe_wipe (σ : St) (vs : List Nat) : wipe (wipe σ vs) vs = wipe σ vs := by
  apply List.ext_getElem?
  intro i
  by_cases h : i ∈ vs
  · have key : ∀ (us : List Nat) (τ : St), i ∈ us → (wipe τ us)[i]? = if i < τ.length then some none else none := by
      intro us
      induction us with
      | nil => intro τ hm; cases hm
      | cons u us ih =>
        intro τ hm
        unfold wipe
        by_cases z : u = i
        · rw [z, List.getElem?_set]
          simp only [if_true, wipe_length]
        · rw [List.getElem?_set_ne z]
          exact ih τ ((List.mem_cons.mp hm).resolve_left fun q => z q.symm)
    rw [key vs _ h, key vs _ h, wipe_length]
  · have key : ∀ (us : List Nat) (τ : St), i ∉ us → (wipe τ us)[i]? = τ[i]? := by
      intro us
      induction us with
      | nil => intro τ _; rfl
      | cons u us ih =>
        intro τ hm
        unfold wipe
        rw [List.getElem?_set_ne (fun z => hm (by rw [z]; exact List.mem_cons_self))]
        exact ih τ fun z => hm (List.mem_cons_of_mem _ z)
    rw [key vs _ h]
theorem wipeE_length {env : En} : ∀ {vs : List Nat}, (wipeE env vs).length = env.length
  | [] => rfl
  | v :: vs => by unfold wipeE; rw [List.length_set, wipeE_length]
theorem wipe_get {σ : St} {i : Nat} : ∀ {vs : List Nat}, i ∉ vs → (wipe σ vs)[i]? = σ[i]?
  | [], _ => rfl
  | v :: vs, h => by
    unfold wipe
    have ne : v ≠ i := fun z => h (by rw [z]; exact List.mem_cons_self)
    rw [List.getElem?_set_ne ne]
    exact wipe_get fun z => h (List.mem_cons_of_mem _ z)
theorem RelE.wipe {K : PySem.W.Frag} {H : Hp} {ρ : Pl} {st : Sto} {σ : St} {env : En} (h : RelE K H ρ st σ env) (vs : List Nat) : RelE K H ρ st (L2.wipe σ vs) (wipeE env vs) :=
  ⟨by rw [wipeE_length, wipe_length]; exact h.1, fun i w e => by
    obtain ⟨h1, h2⟩ := wipeE_get e
    obtain ⟨v, q, r⟩ := h.2 i w h1
    exact ⟨v, by rw [wipe_get h2]; exact q, r⟩⟩
theorem R.bind_assoc {α β γ : Type} (r : R α) (f : α → Sto → R β) (g : β → Sto → R γ) : (r.bind f).bind g = r.bind fun a s => (f a s).bind g := by cases r <;> rfl
theorem lcL_F {g : W → En → Option En} {t : Bx} {e : Ex} {env : En} {ws : List W} : ∀ (n i : Nat) (acc : List W) (st : Sto), ws.length < n + i → i ≤ ws.length → acc.length ≤ i → ws.length < 10000000 →
    lcF (fun i _ => some ws[i]?) g t e env n i acc st = (lcL g t e env (ws.drop i) st).bind fun ys s => .ok (acc ++ ys) s := by
  intro n
  induction n with
  | zero => intro i acc st h1 h2; omega
  | succ n ih =>
    intro i acc st h1 h2 h3 h4
    by_cases hi : i < ws.length
    · rw [List.drop_eq_getElem_cons hi]
      have e1 : ws[i]? = some ws[i] := by simp [hi]
      unfold lcF lcL
      simp only [e1]
      cases hg : g ws[i] env with
      | none => rfl
      | some env1 =>
        simp only
        rw [R.bind_assoc]
        congr 1
        funext k s1
        cases k with
        | false =>
          simp only [Bool.false_eq_true, if_false]
          exact ih (i + 1) acc s1 (by omega) (by omega) (by omega) h4
        | true =>
          simp only [if_true]
          rw [R.bind_assoc]
          congr 1
          funext y s2
          rw [if_pos (ck_iff.mpr (by omega)), ih (i + 1) (acc ++ [y]) s2 (by omega) (by omega) (by simp; omega) h4, R.bind_assoc]
          congr 1
          funext ys s3
          simp
    · have e1 : ws[i]? = none := List.getElem?_eq_none_iff.mpr (by omega)
      have ed : ws.drop i = [] := List.drop_eq_nil_of_le (by omega)
      rw [ed]
      unfold lcF lcL
      simp only [e1]
      simp
/-- the list made is never changed any more -/
def lcE (vs : List Nat) (m : Ix) (g : W → En → Option En) (t : Bx) (e : Ex) : Ex := fun env st => (lcS vs m g t e env st).bind fun ws s => .ok (.fl ws) s
/-- the list made has a place -/
def lcPF (f : Nat → Sto → Option (Option W)) (g : W → En → Option En) (t : Bx) (e : Ex) (env : En) (l : Nat) : Nat → Nat → Sto → R W
  | 0, _, _ => .no
  | n + 1, i, st => match f i st with
    | some (some w) => match g w env with
      | some env1 => (t env1 st).bind fun k s1 => if k = true then (e env1 s1).bind fun y s2 => match s2[l]? with
        | some (.lst acc) => if ck (acc.length < 10000000) = true then lcPF f g t e env l n (i + 1) (s2.set l (.lst (acc ++ [y]))) else .no
        | _ => .no else lcPF f g t e env l n (i + 1) s1
      | none => .no
    | some none => .ok (.loc l) st
    | none => .no
def lcP (vs : List Nat) (m : Ix) (g : W → En → Option En) (t : Bx) (e : Ex) : Ex := fun env st => (m env st).bind fun src s1 => lcPF src.at g t e (wipeE env vs) s1.length src.n 0 (s1 ++ [.lst []])
variable {mi : Ix} {gV : TG} {g : W → En → Option En} {kt : Bx} {own : List Nat}
theorem tLc_of (ct : CT C.K own gV g) {σ : St} {H : Hp} {Q : VK} (h : tM C E (lcE own mi g kt ma) σ H Q) : tLc (tMI C E mi) gV (tMB C E kt) (tM C E ma) own σ H Q := by
  obtain ⟨ρ, st, env, re, S, p⟩ := h
  unfold lcE lcS at p
  rw [R.bind_assoc] at p
  refine ⟨ρ, st, env, re, S, Post.bind (rel := relSrc C) p fun src s1 H1 ρ1 J hj e1 S1 rj p1 => fun D hD => ?_⟩
  have re1 := (re.evo e1 S.liv).wipe own
  have p2 : Post (relW C) C E H1 ρ1 s1 ((lcF src.at g kt ma (wipeE env own) src.n 0 [] s1).bind fun ws s => .ok (.fl ws) s) Q := by
    cases src with
    | st ws =>
      simp only at p1
      split at p1
      · rename_i hl
        have hl := ck_iff.mp hl
        have q := lcL_F (g := g) (t := kt) (e := ma) (env := wipeE env own) (ws := ws) (ws.length + 1) 0 [] s1 (by omega) (by omega) (by simp) hl
        rw [List.drop_zero] at q
        show Post (relW C) C E H1 ρ1 s1 ((lcF (fun i _ => some ws[i]?) g kt ma (wipeE env own) (ws.length + 1) 0 [] s1).bind fun ws s => .ok (.fl ws) s) Q
        rw [q, R.bind_assoc]
        simpa using p1
      · exact p1.elim
    | dy n f => exact p1
  have e0 : Evo H1 ρ1 s1 (upd H1 D (.lst [])) (ρ1.hide D) s1 := Evo.hide hD
  refine ⟨fun i m H' => ∃ ρ' st' acc vacc, Evo H1 ρ1 s1 H' ρ' st' ∧ RelS C H' ρ' st' ∧ RelE C.K H' ρ' st' (wipe σ own) (wipeE env own) ∧ H' D = some (.lst vacc) ∧ D ∈ ρ'.hd ∧ RepL C.K H' ρ' st' vacc acc ∧
      Post (relW C) C E H1 ρ1 s1 ((lcF src.at g kt ma (wipeE env own) m i acc st').bind fun ws s => .ok (.fl ws) s) Q,
    ⟨src.n, ρ1.hide D, s1, [], [], e0, S1.hide hD trivial, re1.evo e0 S1.liv, upd_same, List.mem_cons_self, .nil, p2⟩, ?_⟩
  rintro i m H' ⟨ρ', st', acc, vacc, ev, S', re', hD', hm', ra, pp⟩
  cases m with
  | zero => exact pp.elim
  | succ n =>
    unfold lcF at pp
    cases ei : src.at i st' with
    | none => rw [ei] at pp; exact pp.elim
    | some o =>
      have q := rj H' ρ' st' ev S' i o ei
      rw [ei] at pp
      cases o with
      | none =>
        refine .inl ⟨q, pp H' (ρ'.show D) _ ⟨ev.pre, ev.dd, ev.keep, ev.new, ev.dom, fun a h => ev.newh a (show_sub h), fun a h => show_mem (ev.oldh a h) fun z => ?_⟩ S'.shown (.fl hD' ⟨fun l q => absurd q ((S'.hid D hm').2 l), show_not⟩ ra.shown)⟩
        obtain ⟨⟨u, e, _⟩, _⟩ := S1.hid a h
        rw [z, hD] at e; cases e
      | some w =>
        simp only at pp
        cases eg : g w (wipeE env own) with
        | none => rw [eg] at pp; exact pp.elim
        | some env1 =>
          rw [eg] at pp
          simp only [R.bind_assoc] at pp
          refine .inr ⟨q.1, fun H' => ∃ ρ' st' acc vacc, Evo H1 ρ1 s1 H' ρ' st' ∧ RelS C H' ρ' st' ∧ RelE C.K H' ρ' st' (wipe σ own) (wipeE env own) ∧ H' D = some (.lst vacc) ∧ D ∈ ρ'.hd ∧ RepL C.K H' ρ' st' vacc acc ∧
            Post (relW C) C E H1 ρ1 s1 ((lcF src.at g kt ma (wipeE env own) n (i + 1) acc st').bind fun ws s => .ok (.fl ws) s) Q, fun H' q => ⟨n, Nat.lt_succ_self n, q⟩, fun x H2 hy => ?_⟩
          obtain ⟨ev2, S2, rx⟩ := q.2 x H2 hy
          have on : ∀ {H3 ρ3 s3}, Evo H' ρ' st' H3 ρ3 s3 → Evo H1 ρ1 s1 H3 ρ3 s3 ∧ RelE C.K H3 ρ3 s3 (wipe σ own) (wipeE env own) ∧ H3 D = some (.lst vacc) ∧ D ∈ ρ3.hd ∧ RepL C.K H3 ρ3 s3 vacc acc := fun {H3 ρ3 s3} e3 =>
            ⟨ev.trans e3, re'.evo e3 S'.liv, e3.keep D _ hD' (fun l q => absurd q ((S'.hid D hm').2 l)), e3.oldh D hm', ra.evo e3 S'.liv⟩
          refine ct.ok H2 ρ' st' (wipe σ own) (wipeE env own) env1 x w _ (re'.evo ev2 S'.liv) rx eg fun σ1 re3 hw => ⟨hw.trans (wipe_wipe σ own), ?_⟩
          refine ⟨ρ', st', env1, re3, S2, Post.bindAt (rel := relB) pp (ev.trans ev2) fun k s3 H3 ρ3 kv hk e3 S3 rk p3 => ?_⟩
          have rk : kv = k := rk
          subst rk
          cases kv with
          | false =>
            refine (if_neg (by decide)).mpr ?_
            obtain ⟨a1, a2, a4, a5, a6⟩ := on (ev2.trans e3)
            exact ⟨ρ3, s3, acc, vacc, a1, S3, a2, a4, a5, a6, p3⟩
          | true =>
            refine (if_pos rfl).mpr ?_
            simp only [if_true, R.bind_assoc] at p3
            refine ⟨ρ3, s3, env1, re3.evo e3 S2.liv, S3, Post.bindAt (rel := relW C) p3 ((ev.trans ev2).trans e3) fun y s4 H4 ρ4 vy hy4 e4 S4 ry p4 => ?_⟩
            obtain ⟨a1, a2, a4, a5, a6⟩ := on ((ev2.trans e3).trans e4)
            split at p4
            · rename_i hl
              have hm : ∃ u, H4 D = some u ∧ isMutO u := ⟨_, a4, trivial⟩
              refine ⟨vacc, a4, by rw [a6.length]; exact Nat.lt_of_lt_of_le (ck_iff.mp hl) (by decide), ?_⟩
              refine ⟨ρ4, s4, acc ++ [y], vacc ++ [vy], ?_, S4.hidw a5 trivial, ?_, upd_same, a5, (a6.hidw a5 hm).append (.cons (ry.hidw a5 hm) .nil), p4⟩
              · have neD : ∀ b o, H1 b = some o → b ≠ D := fun b o hb z => by rw [z, hD] at hb; cases hb
                exact ⟨a1.pre, a1.dd, fun b o hb nl => by rw [upd_ne (neD b o hb)]; exact a1.keep b o hb nl, a1.new, fun b hb => by
                  by_cases z : b = D
                  · rw [z]; exact hD
                  · rw [upd_ne z] at hb; exact a1.dom b hb, a1.newh, a1.oldh⟩
              · exact ⟨a2.1, fun i w e => let ⟨v, q, r⟩ := a2.2 i w e; ⟨v, q, r.hidw a5 hm⟩⟩
            · exact p4.elim
variable {elt tg iter : Expr} {ifs : List Expr} {scope : Scope} {ownP : List (Str × Nat)}
/-- a comprehension, its list never changed -/
theorem me_lc {mt : Ex} (ct : CT C.K (ownP.map (·.2)) gV g) (hc : X.calm = true) (hN : X.N.Nodup) (hi : MI X C E tg iter mi) (ok : BlkOk X.N X.env.scope scope ownP)
    (hg : ∀ (s : Shared) (H : Hp) (C : Addr) (cl : List (Str × Addr)) (fp : List Addr), PG (X.blk s H scope (compEnvC scope cl C X.env) fp) tg gV) (ht : ∀ (s : Shared) (H : Hp) (Cc : Addr) (cl : List (Str × Addr)) (fp : List Addr), PTs (X.blk s H scope (compEnvC scope cl Cc X.env) fp) ifs (tMB C E kt))
    (he : ∀ (s : Shared) (H : Hp) (Cc : Addr) (cl : List (Str × Addr)) (fp : List Addr), ME (X.blk s H scope (compEnvC scope cl Cc X.env) fp) C E elt mt) (hs : ∀ x, foldedSetIterable iter X.env x = pure x := by intro _; rfl) :
    ME X C E (.ListComp elt [⟨tg, iter, ifs, 0⟩] scope pos) (lcE (ownP.map (·.2)) mi g kt mt) :=
  PE.imp (pe_lc hc hN hi ok hg ht he hs) fun _ _ _ h => tLc_of ct h
/-- name = [..] -/
theorem ms_setLc {mt : Ex} {i : Nat} {y : Str} {py spos : Pos} (ct : CT C.K (ownP.map (·.2)) gV g) (hc : X.calm = true) (hN : X.N.Nodup) (hy : X.N[i]? = some y) (hyl : X.env.scope.names.lookup y = some .local)
    (hsw : swapsWith (.ListComp elt [⟨tg, iter, ifs, 0⟩] scope pos) (some (.Name y py)) spos.line X.env = pure true) (hi : MI X C E tg iter mi) (ok : BlkOk X.N X.env.scope scope ownP)
    (hg : ∀ (s : Shared) (H : Hp) (C : Addr) (cl : List (Str × Addr)) (fp : List Addr), PG (X.blk s H scope (compEnvC scope cl C X.env) fp) tg gV) (ht : ∀ (s : Shared) (H : Hp) (Cc : Addr) (cl : List (Str × Addr)) (fp : List Addr), PTs (X.blk s H scope (compEnvC scope cl Cc X.env) fp) ifs (tMB C E kt))
    (he : ∀ (s : Shared) (H : Hp) (Cc : Addr) (cl : List (Str × Addr)) (fp : List Addr), ME (X.blk s H scope (compEnvC scope cl Cc X.env) fp) C E elt mt) (hs : ∀ x, foldedSetIterable iter X.env x = pure x := by intro _; rfl) :
    MS X C E (.Assign [.Name y py] (.ListComp elt [⟨tg, iter, ifs, 0⟩] scope pos) spos) (setS i (lcE (ownP.map (·.2)) mi g kt mt)) := by
  refine PS.imp (ps_setLc hc hN hy hyl hsw hi ok hg ht he hs) fun D σ H ⟨ρ, st, env, re, S, p⟩ => tLc_of ct ⟨ρ, st, env, re, S, PostS.bind (rel := relW C) p fun w s1 H1 ρ1 v hw e1 S1 r1 p1 => ?_⟩
  exact p1 H1 ρ1 _ (Evo.refl ..) S1 ((re.evo e1 S.liv).set r1 i)
theorem mts_nil {X' : Cx} : PTs X' [] (tMB C E yesB) := ⟨fun pins s σ H Q I ⟨ρ, st, env, re, S, p⟩ => pts_nil.run pins s σ H Q I (p H ρ true (Evo.refl ..) S rfl)⟩
theorem mts_one {X' : Cx} (h : MT X' C E c kt) : PTs X' [c] (tMB C E kt) := pts_one h
end

/-! ### defs -/
def pad (N : Nat) (ws : List W) : En := ws.map some ++ List.replicate (N - ws.length) none
def fin (r : SR) : R W := match r with
  | .nx _ s => .ok .non s
  | .rt w s => .ok w s
  | .ex c s => .ex c s
  | _ => .no
@[simp] theorem fin_nx (e : En) (s : Sto) : fin (.nx e s) = .ok .non s := rfl
@[simp] theorem fin_rt (w : W) (s : Sto) : fin (.rt w s) = .ok w s := rfl
@[simp] theorem fin_ex (c : Nat) (s : Sto) : fin (.ex c s) = .ex c s := rfl
@[simp] theorem fin_no : fin .no = .no := rfl
@[simp] theorem fin_ite (c : Prop) [Decidable c] (a b : SR) : fin (if c then a else b) = if c then fin a else fin b := by split <;> rfl
def bodyD (N : Nat) (m : Sx) : List W → Sto → R W := fun ws st => fin (m (pad N ws) st)
theorem RelE.start {K : PySem.W.Frag} {H : Hp} {ρ : Pl} {st : Sto} {vs : List V} {ws : List W} {N : List Str} (r : RepL K H ρ st vs ws) : RelE K H ρ st (L2.start N vs) (pad N.length ws) := by
  unfold L2.start pad
  rw [r.length]
  refine ⟨by simp [r.length], fun i w e => ?_⟩
  by_cases hi : i < ws.length
  · rw [List.getElem?_append_left (by simpa using hi), List.getElem?_map] at e
    cases q : ws[i]? with
    | none => rw [q] at e; cases e
    | some w' =>
      rw [q] at e; cases e
      obtain ⟨v, h1, h2⟩ := r.get q
      exact ⟨v, by rw [List.getElem?_append_left (by simpa [r.length] using hi), List.getElem?_map, h1]; rfl, h2⟩
  · rw [List.getElem?_append_right (by simpa using Nat.le_of_not_lt hi), List.getElem?_replicate] at e
    split at e <;> cases e
theorem fn_ok {P : Program} {w : World} {K : PySem.W.Frag} {mg : Str → Option Value} {base : Heap} {C : MC} {k n : Nat} {f : Addr} {x qual : Str} {s : Stmt} {fd : FuncData} {N ps : List Str} {m : Sx} (F : Fun K x qual s f fd) (S : FnScope N ps (defScope s)) (hK : C.K = K) (hn : ps.length = n)
    (body : ∀ (cdv : Value) (A : Around) (outer : List Env) (sh : Shared) (H : Hp) (E : XK), Room k (A.deeper (PyProof.Rows.envOfC qual (defScope s) sh.heap.objs.size f cdv)) → MSs (cxOf CX0 P w K mg base N qual (defScope s) f cdv A outer sh H E).nox C E0 (defBody s) m) :
    FnOk P w K mg base CX0 (k + 1) f fd ps (sp0 C n (bodyD N.length m)) := by
  refine F.ok S (fun vs H Q E h => by rw [hn]; exact h.1) fun cdv A outer sh H vs Q E hr ⟨hl, ρ, st, ws, r, S, p⟩ => ⟨tMS C E0 m, body cdv A outer sh H E hr, ρ, st, pad N.length ws, .start r, S, ?_⟩
  unfold bodyD at p
  cases h : m (pad N.length ws) st with
  | nx e s => rw [h] at p; exact fun H' ρ' σ' e' S' _ => p H' ρ' .non e' S' .non
  | rt w s => rw [h] at p; exact p
  | ex c s => rw [h] at p; exact p
  | bk e s => rw [h] at p; exact p.elim
  | ct e s => rw [h] at p; exact p.elim
  | no => rw [h] at p; exact p.elim
end
end ML

/-! ML7: what a def is worth to its callers; the law -/
namespace ML
open PySem L2
noncomputable section
mutual
/-- the places in w are below n -/
def W.wf (n : Nat) : W → Bool
  | .loc l => decide (l < n)
  | .tup ws => wfL n ws
  | .fl ws => wfL n ws
  | .kl ws => wfL n ws
  | _ => true
def wfL (n : Nat) : List W → Bool
  | [] => true
  | w :: ws => w.wf n && wfL n ws
end
def wfK (n : Nat) : List (Key × W) → Bool
  | [] => true
  | p :: ps => p.2.wf n && wfK n ps
def wfF (n : Nat) : List (Option W) → Bool
  | [] => true
  | none :: ps => wfF n ps
  | some w :: ps => w.wf n && wfF n ps
def O.wf (n : Nat) : O → Bool
  | .dead => true
  | .lst ws => wfL n ws
  | .ins _ fs => wfF n fs
  | .dct kvs => wfK n kvs
theorem wfF_at {n : Nat} : ∀ {fs : List (Option W)} {i : Nat} {w : W}, wfF n fs = true → fs[i]? = some (some w) → w.wf n = true
  | [], _, _, _, h => by simp at h
  | none :: fs, 0, w, _, h => by simp at h
  | none :: fs, i + 1, w, q, h => wfF_at (fs := fs) q (by simpa using h)
  | some x :: fs, 0, w, q, h => by
    simp only [wfF, Bool.and_eq_true] at q
    simp at h
    rw [← h]; exact q.1
  | some x :: fs, i + 1, w, q, h => by
    simp only [wfF, Bool.and_eq_true] at q
    exact wfF_at (fs := fs) q.2 (by simpa using h)
theorem wfF_of {n : Nat} : ∀ {fs : List (Option W)}, (∀ (i : Nat) (w : W), fs[i]? = some (some w) → w.wf n = true) → wfF n fs = true
  | [], _ => rfl
  | none :: fs, h => wfF_of (fs := fs) fun i w q => h (i + 1) w (by simpa using q)
  | some x :: fs, h => by
    simp only [wfF, Bool.and_eq_true]
    exact ⟨h 0 x (by simp), wfF_of (fs := fs) fun i w q => h (i + 1) w (by simpa using q)⟩
section
variable {K : PySem.W.Frag} {C : MC} {H : Hp} {ρ : Pl} {st : Sto}
mutual
theorem Rep.wf : ∀ {v : V} {w : W}, Rep K H ρ st v w → w.wf ρ.pl.length = true
  | _, _, .non => by simp [W.wf]
  | _, _, .bl b => by simp [W.wf]
  | _, _, .int i => by simp [W.wf]
  | _, _, .str x => by simp [W.wf]
  | _, _, .raw v => by simp [W.wf]
  | _, _, .tup h r => by simp only [W.wf]; exact RepL.wf r
  | _, _, .fl h n r => by simp only [W.wf]; exact RepL.wf r
  | _, _, .kl h r => by simp only [W.wf]; exact RepL.wf r
  | _, _, .loc h => by simp only [W.wf]; exact decide_eq_true (List.getElem?_eq_some_iff.mp h).1
theorem RepL.wf : ∀ {vs : List V} {ws : List W}, RepL K H ρ st vs ws → wfL ρ.pl.length ws = true
  | _, _, .nil => by simp [wfL]
  | _, _, .cons h r => by simp only [wfL, Bool.and_eq_true]; exact ⟨Rep.wf h, RepL.wf r⟩
end
theorem RepK.wf : ∀ {kvs : List (Key × V)} {kws : List (Key × W)}, RepK K H ρ st kvs kws → wfK ρ.pl.length kws = true
  | [], [], _ => rfl
  | (k, v) :: kvs, (j, w) :: kws, h => by simp only [wfK, Bool.and_eq_true]; exact ⟨h.2.1.wf, RepK.wf h.2.2⟩
  | [], _ :: _, h => h.elim
  | _ :: _, [], h => h.elim
theorem RelS.wf (S : RelS C H ρ st) {l : Nat} {o : O} (h : st[l]? = some o) : o.wf st.length = true := by
  obtain ⟨a, q, r⟩ := S.addr h
  rw [← S.len]
  cases o with
  | dead => rfl
  | lst ws => obtain ⟨vs, _, r⟩ := r; exact r.wf
  | ins c fs =>
    obtain ⟨Cd, nm, dx, fvs, _, _, r1, r2, _⟩ := r
    refine wfF_of fun i w e => ?_
    have hi := (List.getElem?_eq_some_iff.mp e).1
    rw [r1] at hi
    obtain ⟨v, _, r⟩ := r2 i nm[i] w (by simp [hi]) e
    exact r.wf
  | dct kws => obtain ⟨vs, _, r⟩ := r; exact RepK.wf r
/-- the last places are given up, where nothing leans on them -/
structure Cut (ρ : Pl) (st : Sto) (n : Nat) (ρ1 : Pl) (s1 : Sto) : Prop where
  pl : ∀ l : Nat, l < n → ρ1.pl[l]? = ρ.pl[l]?
  st : ∀ l : Nat, l < n → s1[l]? = st[l]?
  lp : ρ1.pl.length = n
  ls : s1.length = n
  hd : ρ1.hd = ρ.hd
variable {n : Nat} {ρ1 : Pl} {s1 : Sto}
theorem NL.cut (c : Cut ρ st n ρ1 s1) {a : Addr} (h : NL ρ st a) : NL ρ1 s1 a :=
  ⟨fun l q => by
    have hl := (List.getElem?_eq_some_iff.mp q).1
    rw [c.lp] at hl
    rw [c.pl l hl] at q
    rw [c.st l hl]
    exact h.1 l q, by rw [c.hd]; exact h.2⟩
mutual
theorem Rep.cut (c : Cut ρ st n ρ1 s1) : ∀ {v : V} {w : W}, Rep K H ρ st v w → w.wf n = true → Rep K H ρ1 s1 v w
  | _, _, .non, _ => .non
  | _, _, .bl b, _ => .bl b
  | _, _, .int i, _ => .int i
  | _, _, .str x, _ => .str x
  | _, _, .raw v, _ => .raw v
  | _, _, .tup h r, q => .tup h (RepL.cut c r (by simpa [W.wf] using q))
  | _, _, .fl h n r, q => .fl h (n.cut c) (RepL.cut c r (by simpa [W.wf] using q))
  | _, _, .kl h r, q => .kl (by
      rcases h with ⟨h, n⟩ | h
      · exact .inl ⟨h, n.cut c⟩
      · exact .inr h) (RepL.cut c r (by simpa [W.wf] using q))
  | _, _, .loc h, q => .loc (by rw [c.pl _ (by simpa [W.wf] using q)]; exact h)
theorem RepL.cut (c : Cut ρ st n ρ1 s1) : ∀ {vs : List V} {ws : List W}, RepL K H ρ st vs ws → wfL n ws = true → RepL K H ρ1 s1 vs ws
  | _, _, .nil, _ => .nil
  | _, _, .cons h r, q => by
    simp only [wfL, Bool.and_eq_true] at q
    exact .cons (Rep.cut c h q.1) (RepL.cut c r q.2)
end
theorem RepK.cut (c : Cut ρ st n ρ1 s1) : ∀ {kvs : List (Key × V)} {kws : List (Key × W)}, RepK K H ρ st kvs kws → wfK n kws = true → RepK K H ρ1 s1 kvs kws
  | [], [], _, _ => trivial
  | (k, v) :: kvs, (j, w) :: kws, h, q => by
    simp only [wfK, Bool.and_eq_true] at q
    exact ⟨h.1, h.2.1.cut c q.1, RepK.cut c h.2.2 q.2⟩
  | [], _ :: _, h, _ => h.elim
  | _ :: _, [], h, _ => h.elim
theorem RelS.cut (S : RelS C H ρ st) (c : Cut ρ st n ρ1 s1) (hw : ∀ (l : Nat) (o : O), s1[l]? = some o → o.wf n = true) : RelS C H ρ1 s1 := by
  have at_ : ∀ {l : Nat} {a : Addr}, ρ1.pl[l]? = some a → l < n ∧ ρ.pl[l]? = some a := fun {l a} h => by
    have hl := (List.getElem?_eq_some_iff.mp h).1
    rw [c.lp] at hl
    exact ⟨hl, by rw [← c.pl l hl]; exact h⟩
  refine ⟨c.lp.trans c.ls.symm, fun l m a h1 h2 => S.inj l m a (at_ h1).2 (at_ h2).2, fun l a o h e => ?_, fun a h => ?_⟩
  · obtain ⟨hl, ha⟩ := at_ h
    have wo := hw l o e
    rw [c.st l hl] at e
    have q := S.obj l a o ha e
    cases o with
    | dead => exact q
    | lst ws => obtain ⟨vs, q, r⟩ := q; exact ⟨vs, q, r.cut c wo⟩
    | ins cc fs => obtain ⟨Cd, nm, dx, fvs, q1, q2, r1, r2, r3⟩ := q; exact ⟨Cd, nm, dx, fvs, q1, q2, r1, fun i f w a b => let ⟨v, e, r⟩ := r2 i f w a b; ⟨v, e, r.cut c (wfF_at wo b)⟩, r3⟩
    | dct kws => obtain ⟨kvs, q, r⟩ := q; exact ⟨kvs, q, RepK.cut c r wo⟩
  · rw [c.hd] at h
    obtain ⟨q1, q2⟩ := S.hid a h
    exact ⟨q1, fun l z => q2 l (at_ z).2⟩
end
/-- d' is what callers know of d: the same value, places that nothing leans on left out -/
def Gc (n : Nat) (d d' : List W → Sto → R W) : Prop := ∀ (ws : List W) (st : Sto), ws.length = n → wfL st.length ws = true → match d' ws st with
  | .ok w st' => ∃ s2, d ws st = .ok w (st' ++ s2) ∧ st.length ≤ st'.length ∧ (s2 = [] ∨ (w.wf st'.length = true ∧ ∀ (l : Nat) (o : O), st'[l]? = some o → st[l]? = some o ∨ o.wf st'.length = true))
  | .ex c s => d ws st = .ex c s
  | .no => True
theorem Gc.pure {n : Nat} {d d' : List W → Sto → R W} (h : ∀ ws st w st', ws.length = n → wfL st.length ws = true → d' ws st = .ok w st' → st' = st ∧ w.wf st.length = true ∧ ∃ s2, d ws st = .ok w (st ++ s2)) (hx : ∀ ws st c s, d' ws st ≠ .ex c s) : Gc n d d' := by
  intro ws st hl hw
  cases e : d' ws st with
  | ok w st' =>
    obtain ⟨rfl, h2, s2, h3⟩ := h ws st w st' hl hw e
    exact ⟨s2, h3, Nat.le_refl _, .inr ⟨h2, fun l o q => .inl q⟩⟩
  | ex c s => exact absurd e (hx ws st c s)
  | no => exact True.intro
theorem wf_mono {n m : Nat} (h : n ≤ m) : (∀ w : W, w.wf n = true → w.wf m = true) := by
  intro w
  refine W.rec (motive_1 := fun w => w.wf n = true → w.wf m = true) (motive_2 := fun ws => wfL n ws = true → wfL m ws = true) ?_ ?_ ?_ ?_ ?_ ?_ ?_ ?_ ?_ ?_ ?_ w
  · intro _; simp [W.wf]
  · intro _ _; simp [W.wf]
  · intro _ _; simp [W.wf]
  · intro _ _; simp [W.wf]
  · intro _ _; simp [W.wf]
  · intro ws ih q; simp only [W.wf] at q ⊢; exact ih q
  · intro ws ih q; simp only [W.wf] at q ⊢; exact ih q
  · intro ws ih q; simp only [W.wf] at q ⊢; exact ih q
  · intro l q
    simp only [W.wf, decide_eq_true_eq] at q ⊢
    omega
  · intro _; simp [wfL]
  · intro w ws i1 i2 q
    simp only [wfL, Bool.and_eq_true] at q ⊢
    exact ⟨i1 q.1, i2 q.2⟩
theorem wfL_mono {n m : Nat} (h : n ≤ m) {ws : List W} (q : wfL n ws = true) : wfL m ws = true := by
  have := wf_mono h (.tup ws) (by simpa [W.wf] using q)
  simpa [W.wf] using this
theorem O.wf_mono {n m : Nat} (h : n ≤ m) {o : O} (q : o.wf n = true) : o.wf m = true := by
  cases o with
  | dead => rfl
  | lst ws => exact wfL_mono h q
  | ins c fs => exact wfF_of fun i w e => ML.wf_mono h w (wfF_at (show wfF n fs = true from q) e)
  | dct kvs =>
    have key : ∀ kvs : List (Key × W), wfK n kvs = true → wfK m kvs = true := by
      intro kvs
      induction kvs with
      | nil => intro _; rfl
      | cons p ps ih =>
        intro q
        simp only [wfK, Bool.and_eq_true] at q ⊢
        exact ⟨ML.wf_mono h _ q.1, ih q.2⟩
    exact key kvs q
theorem fn_spec {P : Program} {w : World} {K : PySem.W.Frag} {mg : Str → Option Value} {base : Heap} {CX : CXT} {C : MC} {k n : Nat} {f : Addr} {fd : FuncData} {ps : List Str} {d d' : List W → Sto → R W} (F : FnOk P w K mg base CX k f fd ps (sp0 C n d)) (g : Gc n d d') :
    FnOk P w K mg base CX k f fd ps (sp0 C n d') := by
  refine F.imp fun vs H Q E ⟨hl, ρ, st, ws, r, S, p⟩ => ⟨hl, ρ, st, ws, r, S, ?_⟩
  have q := g ws st (by rw [← r.length]; exact hl) (by rw [← S.len]; exact r.wf)
  cases e : d' ws st with
  | no => rw [e] at p; exact p.elim
  | ex c s => rw [e] at p q; rw [q]; exact p
  | ok x st' =>
    rw [e] at p q
    obtain ⟨s2, h1, h2, h3⟩ := q
    rw [h1]
    intro H' ρ' v ev S' rv
    rcases h3 with h3 | ⟨h3, h4⟩
    · rw [h3, List.append_nil] at ev S' rv
      exact p H' ρ' v ev S' rv
    · have c : Cut ρ' (st' ++ s2) st'.length ⟨ρ'.pl.take st'.length, ρ'.hd⟩ st' := by
        have ln := S'.len
        rw [List.length_append] at ln
        refine ⟨fun l hl => by simp [List.getElem?_take, hl], fun l hl => by rw [List.getElem?_append_left hl], ?_, rfl, rfl⟩
        show (ρ'.pl.take st'.length).length = _
        rw [List.length_take]
        omega
      refine p H' ⟨ρ'.pl.take st'.length, ρ'.hd⟩ v ⟨fun l a h => ?_, fun l h => ?_, ev.keep, fun l a h => ?_, ev.dom, ev.newh, ev.oldh⟩ (S'.cut c fun l o e2 => ?_) (rv.cut c h3)
      · have hl : l < st'.length := by
          have := (List.getElem?_eq_some_iff.mp h).1
          rw [S.len] at this
          omega
        rw [c.pl l hl]
        exact ev.pre l a h
      · have hl : l < st'.length := by
          have := (List.getElem?_eq_some_iff.mp h).1
          omega
        rw [c.st l hl]
        exact ev.dd l h
      · have hl := (List.getElem?_eq_some_iff.mp h).1
        rw [c.lp] at hl
        rw [c.pl l hl] at h
        exact ev.new l a h
      · rcases h4 l o e2 with q | q
        · exact O.wf_mono h2 (S.wf q)
        · exact q
/-! ### the law -/
def spLaw (K : PySem.W.Frag) : Sp := fun vs H Q _ => ∃ (a : Addr) (ns : List Int), vs = [.ref a] ∧ SqL K H a (ns.map V.int) ∧ ns.length ≤ 63 ∧ ∀ H', Q (.bl true) H'
theorem law_ok {P : Program} {w : World} {K : PySem.W.Frag} {mg : Str → Option Value} {base : Heap} {CX : CXT} {C : MC} {k : Nat} {f : Addr} {fd : FuncData} {ps : List Str} {d : List W → Sto → R W} (hK : C.K = K) (F : FnOk P w K mg base CX k f fd ps (sp0 C 1 d))
    (h : ∀ ns : List Int, ns.length ≤ 63 → ∃ st', d [.kl (ns.map W.int)] [] = .ok (.bl true) st') : FnOk P w K mg base CX k f fd ps (spLaw K) := by
  refine F.imp fun vs H Q E ⟨a, ns, ev, hS, hl, hQ⟩ => ?_
  obtain ⟨st', hd⟩ := h ns hl
  subst hK
  refine ⟨by rw [ev]; rfl, ⟨[], []⟩, [], [.kl (ns.map W.int)], ?_, ⟨rfl, fun l m a h => by simp at h, fun l a o h => by simp at h, fun a h => by simp at h⟩, ?_⟩
  · rw [ev]
    refine .cons (.kl ?_ (repL_ints ns)) .nil
    rcases hS with (q | q) | q
    · exact .inl ⟨q, fun l h => by simp at h, by simp⟩
    · exact .inr (.inl q)
    · exact .inr (.inr (.inr q))
  · rw [hd]
    intro H' ρ' v _ _ r
    cases r
    exact hQ H'
end
end ML

/-! ML8: more rules -/
namespace ML
open PySem L2
noncomputable section
section
variable {X : Cx} {C : MC} {E : XK} {a b c e o value : Expr} {ma mb mc mo mv : Ex} {pos pos' tpos : Pos} {es : List Expr} {mr : Ax}
/-! ### o.f among several targets -/
def setFd (c j : Nat) (x w : W) (s : Sto) : R Unit := match x with
  | .loc l => match s[l]? with
    | some (.ins c' fs) => if c' = c then .ok () (s.set l (.ins c' (fs.set j (some w)))) else .no
    | _ => .no
  | _ => .no
def gFd (c j : Nat) (o : Ex) : W → En → Sto → R En := fun w env st => (o env st).bind fun x s1 => (setFd c j x w s1).bind fun _ s2 => .ok env s2
theorem mg_fld {c j : Nat} {Cd : Addr} {nm : List Str} {f : Str} (hc : C.cls[c]? = some (Cd, nm)) (nd : nm.Nodup) (hl : nm.length < 1000) (hj : nm[j]? = some f) (cl : Cls X.K Cd) (na : NoAttr X.K Cd f) (ho : ME X C E o mo) : MG X C E (.Attribute o f pos) (gFd c j mo) := by
  refine ⟨fun pins s σ H v u Q I r ⟨ρ, st, env, w, re, S, rw_, p⟩ => ?_⟩
  rw [assign_Attribute]
  have h1 : tM C E mo σ H fun x H1 => ∃ a dx fvs, x = .ref a ∧ H1 a = some (.ins Cd dx fvs) ∧ fvs.length < 1000 ∧ Q σ (upd H1 a (.ins Cd dx (putF f v fvs))) := by
    refine ⟨ρ, st, env, re, S, Post.bind p fun x s1 H1 ρ1 vx hx e1 S1 r1 p1 => ?_⟩
    unfold setFd at p1
    split at p1
    · split at p1
      · rename_i c' fs es
        split at p1
        · rename_i ec
          subst ec
          cases r1 with
          | @loc a l q =>
            obtain ⟨Cd', nm', dx, fvs, q1, q2, q3⟩ := S1.obj _ a _ q es
            rw [hc] at q1; cases q1
            obtain ⟨ev, S3⟩ := ins_write (dx := dx) S1 hc nd hj q es q3 (rw_.evo e1 S.liv)
            exact ⟨a, dx, fvs, rfl, q2, q3.small hl, p1 _ ρ1 σ ev S3 ((re.evo e1 S.liv).evo ev S1.liv)⟩
        · exact p1.elim
      · exact p1.elim
    · exact p1.elim
  refine wpAny_bind (wpAny_holding (thn (ho.run pins s σ H _ I h1) fun ov s1 ⟨x, H1, I1, r1, a, dx, fvs, ex, ea, hs, q⟩ => ?_))
  subst ex
  have eo : ov = Value.ref a := r1
  subst eo
  exact wpAny_bind (wpAny_standAt (wpAny_bind (wpAny_holding (setattr_ok I1 ea cl na hs r fun s3 I3 => wpAny_release ⟨σ, _, I3, q⟩))))
/-! ### in, of data at any depth -/
def rInU (K : PySem.W.Frag) (neg : Bool) : R2 := fun x y H Q => ∃ d ds, Dp K H x d ∧ (Dp K H y (.list ds) ∨ Dp K H y (.tuple ds)) ∧ SeqAt.shaped d = true ∧ SeqAt.shaped (.list ds) = true ∧ Q (.bl (if neg then !ds.any fun z => PyData.eqv z d else ds.any fun z => PyData.eqv z d)) H
theorem room_in {A : Around} {d : PyData} {ds : List PyData} (sd : SeqAt.shaped d = true) (hu : A.units + 65 < cLine) : A.units + 1 + min d.depth (PyData.depthAll ds) < cLine := by
  have h1 := SeqAt.depth_of_shaped sd
  have h2 : min d.depth (PyData.depthAll ds) ≤ d.depth := Nat.min_le_left _ _
  omega
theorem op_inU (hu : X.A.units + 65 < cLine) : OpR X (compareOp .In) (rInU X.K false) := by
  intro pins s σ H x y v u Q I rx ry ⟨d, ds, hd, he, sd, se, q⟩
  obtain ⟨as, r1⟩ := Dp.reads I d x v hd rx
  rcases he with he | he
  · obtain ⟨bs, r2⟩ := Dp.reads I (.list ds) y u he ry
    exact SeqAt.in_list_reads r2 r1 (SeqAt.canLay_of_shaped se) (SeqAt.canLay_of_shaped sd) (by have := SeqAt.depth_of_shaped sd; have : min (PyData.depthAll ds) d.depth ≤ d.depth := Nat.min_le_right _ _; omega) ⟨.bl _, H, I, rfl, q⟩
  · obtain ⟨bs, r2⟩ := Dp.reads I (.tuple ds) y u he ry
    exact SeqAt.in_tuple_reads r2 r1 (SeqAt.canLay_of_shaped se) (SeqAt.canLay_of_shaped sd) (by have := SeqAt.depth_of_shaped sd; have : min (PyData.depthAll ds) d.depth ≤ d.depth := Nat.min_le_right _ _; omega) ⟨.bl _, H, I, rfl, q⟩
theorem op_ninU (hu : X.A.units + 65 < cLine) : OpR X (compareOp .NotIn) (rInU X.K true) := by
  intro pins s σ H x y v u Q I rx ry ⟨d, ds, hd, he, sd, se, q⟩
  obtain ⟨as, r1⟩ := Dp.reads I d x v hd rx
  rcases he with he | he
  · obtain ⟨bs, r2⟩ := Dp.reads I (.list ds) y u he ry
    exact SeqAt.notIn_list_reads r2 r1 (SeqAt.canLay_of_shaped se) (SeqAt.canLay_of_shaped sd) (by have := SeqAt.depth_of_shaped sd; have : min (PyData.depthAll ds) d.depth ≤ d.depth := Nat.min_le_right _ _; omega) ⟨.bl _, H, I, rfl, q⟩
  · obtain ⟨bs, r2⟩ := Dp.reads I (.tuple ds) y u he ry
    exact SeqAt.notIn_tuple_reads r2 r1 (SeqAt.canLay_of_shaped se) (SeqAt.canLay_of_shaped sd) (by have := SeqAt.depth_of_shaped sd; have : min (PyData.depthAll ds) d.depth ≤ d.depth := Nat.min_le_right _ _; omega) ⟨.bl _, H, I, rfl, q⟩
def datItems (s : Sto) (y : W) : Option (List PyData) := match datS s 3 y with
  | some (.list ds) => some ds
  | some (.tuple ds) => some ds
  | _ => none
def inDW (neg : Bool) (x y : W) (s : Sto) : R W := match datS s 3 x, datItems s y with
  | some d, some ds => if SeqAt.shaped d = true ∧ SeqAt.shaped (.list ds) = true then .ok (.bl (if neg then !ds.any fun z => PyData.eqv z d else ds.any fun z => PyData.eqv z d)) s else .no
  | _, _ => .no
theorem om_inU {neg : Bool} : OpM C E (rInU C.K neg) (inDW neg) := by
  intro H ρ st v u x y Q S rx ry p
  unfold inDW at p
  split at p
  · rename_i d ds e1 e2
    split at p
    · rename_i h
      refine ⟨d, ds, datS_rep S 3 x v d rx e1, ?_, h.1, h.2, p H ρ _ (Evo.refl ..) S (.bl _)⟩
      unfold datItems at e2
      split at e2
      · rename_i e3; cases e2; exact .inl (datS_rep S 3 y u _ ry e3)
      · rename_i e3; cases e2; exact .inr (datS_rep S 3 y u _ ry e3)
      · cases e2
    · exact p.elim
  · exact p.elim
/-! ### constants of the module -/
theorem me_gint {x : Str} {i : Int} {pos : Pos} (hg : Gl X x) (hm : ∃ t, X.mg x = some (.int i t)) (hd : (x == ("__debug__" : Str)) = false := by decide) : ME X C E (.Name x pos) (kk (.int i)) := by
  obtain ⟨t, hm⟩ := hm
  exact me_glob hg hm (v := .int i) ⟨t, rfl⟩ ⟨fun _ _ _ => .int i⟩ hd
theorem me_gref {x : Str} {a : Addr} {w : W} {pos : Pos} (hg : Gl X x) (hm : X.mg x = some (.ref a)) (g : GC C.K (.ref a) w) (hd : (x == ("__debug__" : Str)) = false := by decide) : ME X C E (.Name x pos) (kk w) :=
  me_glob hg hm (v := .ref a) rfl g hd
/-- what stands in the written part, by its values -/
inductive KW (K : PySem.W.Frag) : Value → W → Prop
  | non : KW K .none .non
  | bl (b : Bool) : KW K (.bool b) (.bl b)
  | int (i : Int) (t : Tok) : KW K (.int i t) (.int i)
  | str (x : Str) (t : Tok) : KW K (.str x t) (.str x)
  | tup {a : Addr} {dd : Option Addr} {us : Array Value} {n : Nat} {sl : Array (Option Value)} {ws : List W} (h : K.lookup a = some ⟨.type "tuple", dd, .seq us n, sl⟩) (hz : us.size ≤ sizeLine) (r : Paired (KW K) us.toList ws) : KW K (.ref a) (.tup ws)
mutual
theorem KW.gc {K : PySem.W.Frag} : ∀ {u : Value} {w : W}, KW K u w → ∃ v, RelV v u ∧ GC K v w
  | _, _, .non => ⟨.non, rfl, ⟨fun _ _ _ => .non⟩⟩
  | _, _, .bl b => ⟨.bl b, rfl, ⟨fun _ _ _ => .bl b⟩⟩
  | _, _, .int i t => ⟨.int i, ⟨t, rfl⟩, ⟨fun _ _ _ => .int i⟩⟩
  | _, _, .str x t => ⟨.str x, ⟨t, rfl⟩, ⟨fun _ _ _ => .str x⟩⟩
  | _, _, .tup h hz r => by
    obtain ⟨vs, h1, h2⟩ := KW.gcs r
    exact ⟨.ref _, rfl, ⟨fun H ρ st => .tup (.inr ⟨_, _, _, h, rfl, rfl, hz, h1⟩) (h2 H ρ st)⟩⟩
theorem KW.gcs {K : PySem.W.Frag} : ∀ {us : List Value} {ws : List W}, Paired (KW K) us ws → ∃ vs, Vals vs us ∧ ∀ H ρ st, RepL K H ρ st vs ws
  | _, _, .nil => ⟨[], .nil, fun _ _ _ => .nil⟩
  | _, _, .cons h r => by
    obtain ⟨v, h1, h2⟩ := KW.gc h
    obtain ⟨vs, h3, h4⟩ := KW.gcs r
    exact ⟨v :: vs, .cons h1 h3, fun H ρ st => .cons (h2.rep H ρ st) (h4 H ρ st)⟩
end
theorem KW.ref {K : PySem.W.Frag} {a : Addr} {w : W} (h : KW K (.ref a) w) : GC K (.ref a) w := by
  obtain ⟨v, h1, h2⟩ := h.gc
  cases v with
  | ref b => cases h1; exact h2
  | non => cases h1
  | bl b => cases h1
  | ty n => cases h1
  | int i => obtain ⟨_, q⟩ := h1; cases q
  | str i => obtain ⟨_, q⟩ := h1; cases q
  | byt i => obtain ⟨_, q⟩ := h1; cases q
  | flt i => obtain ⟨_, q⟩ := h1; cases q
/-- code that is never come to -/
def noS : Sx := fun _ _ => .no
theorem ms_never {s : Stmt} : MS X C E s noS := PS.imp (t := tNever) ps_never fun D σ H ⟨ρ, st, env, re, S, p⟩ => p.elim
theorem mss_never {s : List Stmt} : MSs X C E s noS := PSs.imp (t := tNever) pss_never fun D σ H ⟨ρ, st, env, re, S, p⟩ => p.elim
end
end
end ML

/-! ML9: written tables with int keys; is of bools -/
namespace ML
open PySem L2
noncomputable section
def TabIs : List DictEntry → List (Int × Value) → Prop := Paired fun e p => (∃ t, e.key = Value.int p.1 t) ∧ e.hash = hashInt p.1 ∧ e.val = p.2
/-- a written dict with int keys, and how its values read -/
structure KTab (K : PySem.W.Frag) (a : Addr) (tw : List (Int × W)) : Prop where
  low : (a == sysModules) = false
  ex : ∃ es n ps, K.lookup a = some ⟨.type "dict", none, .dict es n, #[]⟩ ∧ TabIs es.toList ps ∧ Paired (fun (p : Int × Value) (q : Int × W) => p.1 = q.1 ∧ KW K p.2 q.2) ps tw
def tabV (ps : List (Int × Value)) (k : Int) : Option Value := (ps.find? fun p => decide (p.1 = k)).map (·.2)
theorem tab_find {k : Int} : ∀ {l : List DictEntry} {ps : List (Int × Value)}, TabIs l ps → (l.find? fun e => Value.isInt k e.key).map (·.val) = tabV ps k
  | [], [], _ => rfl
  | e :: l, p :: ps, h => by
    cases h with
    | cons h r =>
      obtain ⟨⟨t, h1⟩, h2, h3⟩ := h
      unfold tabV
      rw [List.find?_cons, List.find?_cons, h1]
      by_cases z : p.1 = k
      · have q : Value.isInt k (.int p.1 t) = true := by rw [z]; simp [Value.isInt]
        rw [q, decide_eq_true z]
        simp [h3]
      · have q : Value.isInt k (.int p.1 t) = false := by
          cases q : Value.isInt k (.int p.1 t) with
          | false => rfl
          | true =>
            obtain ⟨t', e'⟩ := Value.isInt_shape q
            cases e'
            exact absurd rfl z
        rw [q, decide_eq_false z]
        exact tab_find r
theorem tab_w {K : PySem.W.Frag} {k : Int} : ∀ {ps : List (Int × Value)} {tw : List (Int × W)}, Paired (fun (p : Int × Value) (q : Int × W) => p.1 = q.1 ∧ KW K p.2 q.2) ps tw →
    (tabV ps k = none ∧ tw.lookup k = none) ∨ ∃ u w, tabV ps k = some u ∧ tw.lookup k = some w ∧ KW K u w
  | [], [], _ => .inl ⟨rfl, rfl⟩
  | p :: ps, q :: tw, h => by
    cases h with
    | cons h r =>
      obtain ⟨k2, w⟩ := q
      obtain ⟨h1, h2⟩ := h
      simp only at h1 h2
      by_cases z : p.1 = k
      · refine .inr ⟨p.2, w, ?_, ?_, h2⟩
        · unfold tabV; rw [List.find?_cons, decide_eq_true z]; rfl
        · rw [List.lookup_cons, show (k == k2) = true by rw [← h1, z]; simp]
      · have e1 : tabV (p :: ps) k = tabV ps k := by unfold tabV; rw [List.find?_cons, decide_eq_false z]
        have e2 : ((k2, w) :: tw).lookup k = tw.lookup k := by
          rw [List.lookup_cons, show (k == k2) = false by rw [← h1]; simpa using fun e => z e.symm]
        rw [e1, e2]
        exact tab_w r
theorem KTab.map {K : PySem.W.Frag} {a : Addr} {tw : List (Int × W)} (T : KTab K a tw) {h : Heap} (X : K.In h) (prog : Program) (w : World) : ∃ ps, h.MapOf (intKind prog w) a (tabV ps) ∧ Paired (fun (p : Int × Value) (q : Int × W) => p.1 = q.1 ∧ KW K p.2 q.2) ps tw := by
  obtain ⟨es, n, ps, hl, ht, hw⟩ := T.ex
  refine ⟨ps, ⟨_, es, n, X _ _ hl, ⟨rfl, rfl, rfl⟩, rfl, fun e he => ?_, fun k => ?_⟩, hw⟩
  · have key : ∀ {l : List DictEntry} {ps : List (Int × Value)}, TabIs l ps → e ∈ l → ∃ k, Value.isInt k e.key = true ∧ e.hash = hashInt k := by
      intro l
      induction l with
      | nil => intro ps _ hm; cases hm
      | cons e' l ih =>
        intro ps ht hm
        cases ht with
        | cons h r =>
          rcases List.mem_cons.mp hm with z | hm
          · subst z
            obtain ⟨⟨t, h1⟩, h2, _⟩ := h
            exact ⟨_, by rw [h1]; simp [Value.isInt], h2⟩
          · exact ih r hm
    exact key ht (Array.mem_toList_iff.mpr he)
  · obtain ⟨l⟩ := es
    have q := tab_find (k := k) ht
    unfold findBy
    rw [List.find?_toArray]
    exact q
section
variable {X : Cx} {C : MC} {E : XK} {a b : Expr} {ma mb : Ex} {pos : Pos} {x : Str} {p : Pos} {ad : Addr} {tw : List (Int × W)}
def rInT (K : PySem.W.Frag) (ad : Addr) (tw : List (Int × W)) (neg : Bool) : R2 := fun x y H Q => ∃ k, x = .int k ∧ y = .ref ad ∧ Q (.bl (if neg then !(tw.lookup k).isSome else (tw.lookup k).isSome)) H
theorem op_inT (T : KTab X.K ad tw) : OpR X (compareOp .In) (rInT X.K ad tw false) := by
  intro pins s σ H x y v u Q I rx ry ⟨k, ex, ey, q⟩
  subst ex; subst ey
  obtain ⟨t, rfl⟩ := rx
  cases ry
  obtain ⟨ps, hm, hw⟩ := T.map I.kIn X.prog X.w
  refine wpAny_in_of (knd := intKind X.prog X.w) (k := k) (by show Value.isInt k (.int k t) = true; simp [Value.isInt]) T.low hm ⟨.bl (tw.lookup k).isSome, H, I.tok _, ?_, q⟩
  rcases tab_w (k := k) hw with ⟨h1, h2⟩ | ⟨u, w, h1, h2, _⟩ <;> rw [h1, h2] <;> rfl
def inT (tw : List (Int × W)) (x : W) (s : Sto) : R W := match x with
  | .int k => .ok (.bl (tw.lookup k).isSome) s
  | _ => .no
def ninT (tw : List (Int × W)) (x : W) (s : Sto) : R W := match x with
  | .int k => .ok (.bl (!(tw.lookup k).isSome)) s
  | _ => .no
theorem me_inT (T : KTab X.K ad tw) (ha : ME X C E a ma) (hg : Gl X x) (hm : X.mg x = some (.ref ad)) (hd : (x == ("__debug__" : Str)) = false := by decide) (hb : behindInMarks .In (.Name x p) = false := by rfl) : ME X C E (.Compare a [.In] [.Name x p] pos) (un (inT tw) ma) := by
  refine PE.imp (pe_cmpR (op_inT T) ha (pe_glob hg hm (v := .ref ad) rfl hd) hb) fun σ H Q ⟨ρ, st, env, re, S, p⟩ => ⟨ρ, st, env, re, S, Post.bind p fun x s1 H1 ρ1 v hx e1 S1 r1 p1 => ?_⟩
  unfold inT at p1
  split at p1
  · cases r1; exact ⟨_, rfl, rfl, p1 H1 ρ1 _ (Evo.refl ..) S1 (.bl _)⟩
  · exact p1.elim
theorem mt_inT (T : KTab X.K ad tw) (ha : ME X C E a ma) (hg : Gl X x) (hm : X.mg x = some (.ref ad)) (hd : (x == ("__debug__" : Str)) = false := by decide) (hb : behindInMarks .In (.Name x p) = false := by rfl) : MT X C E (.Compare a [.In] [.Name x p] pos) (tb (un (inT tw) ma)) := by
  refine PT.imp (pt_cmpR (op_inT T) ha (pe_glob hg hm (v := .ref ad) rfl hd) hb) fun σ H Q h => tTest_of (m := un (inT tw) ma) (fun σ H Q ⟨ρ, st, env, re, S, p⟩ => ⟨ρ, st, env, re, S, Post.bind p fun x s1 H1 ρ1 v hx e1 S1 r1 p1 => ?_⟩) h
  unfold inT at p1
  split at p1
  · cases r1; exact ⟨_, rfl, rfl, p1 H1 ρ1 _ (Evo.refl ..) S1 (.bl _)⟩
  · exact p1.elim
def getT (tw : List (Int × W)) (x : W) (s : Sto) : R W := match x with
  | .int k => match tw.lookup k with
    | some w => .ok w s
    | none => .no
  | _ => .no
/-- table[i] -/
theorem me_getT (hK : C.K = X.K) (T : KTab X.K ad tw) (hi : ME X C E b mb) (hg : Gl X x) (hm : X.mg x = some (.ref ad)) (hd : (x == ("__debug__" : Str)) = false := by decide) (hs : PlainIx b := by intro _ _; rfl) : ME X C E (.Subscript (.Name x p) b pos) (un (getT tw) mb) := by
  have hr : IxR X fun x y H Q => ∃ k w, x = .ref ad ∧ y = .int k ∧ tw.lookup k = some w ∧ ∀ u v, KW X.K u w → RelV v u → GC X.K v w → Q v H := by
    intro value slice pins s σ H x y v u Q I rx ry ⟨k, w, ex, ey, hw, q⟩ hs
    subst ex; subst ey
    obtain rfl : v = Value.ref ad := rx
    obtain ⟨t, rfl⟩ := ry
    obtain ⟨ps, hm, hp⟩ := T.map I.kIn X.prog X.w
    rcases tab_w (k := k) hp with ⟨h1, h2⟩ | ⟨u, w', h1, h2, h3⟩
    · rw [hw] at h2; cases h2
    · rw [hw] at h2; cases h2
      obtain ⟨v, hv1, hv2⟩ := h3.gc
      exact PyProof.Rows.tail_any hm.typeIs PySem.slot_dict_getitem.lookup (wpAny_getItem_of (knd := intKind X.prog X.w) (k := k) (by show Value.isInt k (.int k t) = true; simp [Value.isInt]) hm h1 ⟨v, H, I.tok _, hv1, q u v h3 hv1 hv2⟩) hs
  refine PE.imp (pe_ix hr (pe_glob hg hm (v := .ref ad) rfl hd) hi hs) fun σ H Q ⟨ρ, st, env, re, S, p⟩ => ⟨ρ, st, env, re, S, Post.bind p fun x s1 H1 ρ1 v hx e1 S1 r1 p1 => ?_⟩
  unfold getT at p1
  split at p1
  · split at p1
    · rename_i w hw
      cases r1
      refine ⟨_, w, rfl, rfl, hw, fun u v _ _ g => p1 H1 ρ1 v (Evo.refl ..) S1 ?_⟩
      exact (hK ▸ g : GC C.K v w).rep ..
    · exact p1.elim
  · exact p1.elim
/-- is True, is not True -/
def isbW (x y : W) (s : Sto) : R W := match x, y with
  | .bl i, .bl j => .ok (.bl (decide (i = j))) s
  | _, _ => .no
def nibW (x y : W) (s : Sto) : R W := match x, y with
  | .bl i, .bl j => .ok (.bl (!decide (i = j))) s
  | _, _ => .no
theorem om_isb : OpM C E rIsB isbW := by
  intro H ρ st v u x y Q S rx ry p
  unfold isbW at p
  split at p
  · cases rx; cases ry
    exact ⟨_, _, rfl, rfl, p H ρ _ (Evo.refl ..) S (.bl _)⟩
  · exact p.elim
theorem om_nib : OpM C E rNotB nibW := by
  intro H ρ st v u x y Q S rx ry p
  unfold nibW at p
  split at p
  · cases rx; cases ry
    exact ⟨_, _, rfl, rfl, p H ρ _ (Evo.refl ..) S (.bl _)⟩
  · exact p.elim
/-- xs.index(y) of a list of ints, y in it -/
def firstI (y : Int) : List Int → Nat
  | [] => 0
  | x :: xs => if x = y then 0 else firstI y xs + 1
theorem firstI_at {y : Int} : ∀ {xs : List Int}, y ∈ xs → xs[firstI y xs]? = some y ∧ ∀ m z, m < firstI y xs → xs[m]? = some z → z ≠ y
  | x :: xs, h => by
    unfold firstI
    by_cases e : x = y
    · rw [if_pos e]
      exact ⟨by simp [e], fun m z hm => by omega⟩
    · rw [if_neg e]
      have hm : y ∈ xs := by
        rcases List.mem_cons.mp h with q | q
        · exact absurd q.symm e
        · exact q
      obtain ⟨h1, h2⟩ := firstI_at hm
      refine ⟨by simpa using h1, fun m z hlt hz => ?_⟩
      cases m with
      | zero => simp at hz; rw [← hz]; exact e
      | succ m => exact h2 m z (by omega) (by simpa using hz)
def idxF (x : W) (ws : List W) (s : Sto) : R W := match (lstK s x).bind intsOf, ws with
  | some ns, [.int y] => if y ∈ ns then .ok (.int (firstI y ns)) s else .no
  | _, _ => .no
theorem mm_index : MtW C E (rIndex C.K) idxF := by
  intro H ρ st v vs x ws Q S rx rs p
  unfold idxF at p
  split at p
  · rename_i ns y e
    rw [Option.bind_eq_some_iff] at e
    obtain ⟨xs, e1, e2⟩ := e
    obtain ⟨a, us, rfl, q, r⟩ := lstK_rep S rx e1
    rw [intsOf_eq e2] at r
    obtain ⟨w, rfl, rw_⟩ := rs.one
    cases rw_
    have hv := r.ints
    split at p
    · rename_i hy
      obtain ⟨h1, h2⟩ := firstI_at hy
      refine ⟨a, us, .int y, firstI y ns, .int y, rfl, rfl, q, rfl, by rw [hv]; simp [flatV], by rw [hv, List.getElem?_map, h1]; rfl, by simp [eqV], fun m z hm hz => ?_, p H ρ _ (Evo.refl ..) S (.int _)⟩
      rw [hv, List.getElem?_map] at hz
      cases e3 : ns[m]? with
      | none => rw [e3] at hz; cases hz
      | some k =>
        rw [e3] at hz; cases hz
        have := h2 m k hm e3
        simp [eqV, this]
    · exact p.elim
  · exact p.elim
end
end
end ML

/-! ML10: a list that a def has made and nobody else holds is given as a value -/
namespace ML
open PySem L2
noncomputable section
def mapO (f : W → Option W) : List W → Option (List W)
  | [] => some []
  | w :: ws => match f w, mapO f ws with
    | some a, some b => some (a :: b)
    | _, _ => none
def fz (n : Nat) (s : Sto) : Nat → W → Option W
  | 0, _ => none
  | k + 1, .tup ws => (mapO (fz n s k) ws).map .tup
  | k + 1, .fl ws => (mapO (fz n s k) ws).map .fl
  | k + 1, .kl ws => (mapO (fz n s k) ws).map .kl
  | k + 1, .loc l => if l < n then some (.loc l) else match s[l]? with
    | some (.lst ws) => (mapO (fz n s k) ws).map .fl
    | _ => none
  | _ + 1, w => some w
section
variable {C : MC} {H : Hp} {ρ ρ1 : Pl} {st s1 : Sto} {n : Nat}
theorem fzs_rep {f : W → Option W} (h : ∀ v w w', Rep C.K H ρ st v w → f w = some w' → Rep C.K H ρ1 s1 v w') : ∀ {vs : List V} {ws ws' : List W}, RepL C.K H ρ st vs ws → mapO f ws = some ws' → RepL C.K H ρ1 s1 vs ws'
  | _, _, _, .nil, e => by cases e; exact .nil
  | _, w :: ws, ws', .cons r rs, e => by
    unfold mapO at e
    split at e
    · rename_i a b e1 e2
      cases e
      exact .cons (h _ _ _ r e1) (fzs_rep h rs e2)
    · cases e
theorem fz_rep (S : RelS C H ρ st) (c : Cut ρ st n ρ1 s1) : ∀ (k : Nat) (v : V) (w w' : W), Rep C.K H ρ st v w → fz n st k w = some w' → Rep C.K H ρ1 s1 v w' := by
  intro k
  induction k with
  | zero => intro v w w' _ e; cases e
  | succ k ih =>
    intro v w w' r e
    cases r with
    | non => cases e; exact .non
    | bl b => cases e; exact .bl b
    | int b => cases e; exact .int b
    | str b => cases e; exact .str b
    | raw b => cases e; exact .raw _
    | tup h r =>
      simp only [fz, Option.map_eq_some_iff] at e
      obtain ⟨ws', e, rfl⟩ := e
      exact .tup h (fzs_rep ih r e)
    | fl h q r =>
      simp only [fz, Option.map_eq_some_iff] at e
      obtain ⟨ws', e, rfl⟩ := e
      exact .fl h (q.cut c) (fzs_rep ih r e)
    | kl h r =>
      simp only [fz, Option.map_eq_some_iff] at e
      obtain ⟨ws', e, rfl⟩ := e
      refine .kl ?_ (fzs_rep ih r e)
      rcases h with ⟨h, q⟩ | h
      · exact .inl ⟨h, q.cut c⟩
      · exact .inr h
    | @loc a l h =>
      simp only [fz] at e
      split at e
      · rename_i hl
        cases e
        exact .loc (by rw [c.pl _ hl]; exact h)
      · rename_i hl
        split at e
        · rename_i ws es
          simp only [Option.map_eq_some_iff] at e
          obtain ⟨ws', e, rfl⟩ := e
          obtain ⟨vs, q, r⟩ := S.obj l a _ h es
          refine .fl q ⟨fun m hm => ?_, fun hm => ?_⟩ (fzs_rep ih r e)
          · have hlt := (List.getElem?_eq_some_iff.mp hm).1
            rw [c.lp] at hlt
            rw [c.pl _ hlt] at hm
            have := S.inj l m a h hm
            omega
          · rw [c.hd] at hm
            exact absurd h ((S.hid a hm).2 l)
        · cases e
end
section
variable {X : Cx} {E : XK} {a : Expr} {ma : Ex} {pos : Pos}
theorem mt_isN {C : MC} {j pos'} (ha : ME X C E a ma) : MT X C E (.Compare a [.Is] [.Constant .none j pos'] pos) (tb (un isnW ma)) := by
  refine PT.imp (pt_cmp (pc_isN ha) rfl) fun σ H Q h => tTest_of (m := un isnW ma) (fun σ H Q ⟨ρ, st, env, re, S, p⟩ => ⟨ρ, st, env, re, S, Post.bind p fun x s1 H1 ρ1 v _ e1 S1 r1 p1 => ?_⟩) h
  cases r1 <;> first | exact p1.elim | exact p1 H1 ρ1 _ (Evo.refl ..) S1 (.bl _)
theorem mt_notN {C : MC} {j pos'} (ha : ME X C E a ma) : MT X C E (.Compare a [.IsNot] [.Constant .none j pos'] pos) (tb (un nonW ma)) := by
  refine PT.imp (pt_cmp (pc_notN ha) rfl) fun σ H Q h => tTest_of (m := un nonW ma) (fun σ H Q ⟨ρ, st, env, re, S, p⟩ => ⟨ρ, st, env, re, S, Post.bind p fun x s1 H1 ρ1 v _ e1 S1 r1 p1 => ?_⟩) h
  cases r1 <;> first | exact p1.elim | exact p1 H1 ρ1 _ (Evo.refl ..) S1 (.bl _)
end
/-- d' is what callers know of d: its lists are values -/
def Gz (n : Nat) (d d' : List W → Sto → R W) : Prop := ∀ (ws : List W) (st : Sto), ws.length = n → wfL st.length ws = true → match d' ws st with
  | .ok w' st' => ∃ w s2 k, d ws st = .ok w (st' ++ s2) ∧ st.length ≤ st'.length ∧ fz st'.length (st' ++ s2) k w = some w' ∧ (∀ (l : Nat) (o : O), st'[l]? = some o → st[l]? = some o ∨ o.wf st'.length = true)
  | .ex c s => d ws st = .ex c s
  | .no => True
theorem fn_gz {P : Program} {w : World} {K : PySem.W.Frag} {mg : Str → Option Value} {base : Heap} {CX : CXT} {C : MC} {k n : Nat} {f : Addr} {fd : FuncData} {ps : List Str} {d d' : List W → Sto → R W} (F : FnOk P w K mg base CX k f fd ps (sp0 C n d)) (g : Gz n d d') :
    FnOk P w K mg base CX k f fd ps (sp0 C n d') := by
  refine F.imp fun vs H Q E ⟨hl, ρ, st, ws, r, S, p⟩ => ⟨hl, ρ, st, ws, r, S, ?_⟩
  have q := g ws st (by rw [← r.length]; exact hl) (by rw [← S.len]; exact r.wf)
  cases e : d' ws st with
  | no => rw [e] at p; exact p.elim
  | ex c s => rw [e] at p q; rw [q]; exact p
  | ok x st' =>
    rw [e] at p q
    obtain ⟨w0, s2, kk, h1, h2, h3, h4⟩ := q
    rw [h1]
    intro H' ρ' v ev S' rv
    have c : Cut ρ' (st' ++ s2) st'.length ⟨ρ'.pl.take st'.length, ρ'.hd⟩ st' := by
      have ln := S'.len
      rw [List.length_append] at ln
      refine ⟨fun l hl => by simp [List.getElem?_take, hl], fun l hl => by rw [List.getElem?_append_left hl], ?_, rfl, rfl⟩
      show (ρ'.pl.take st'.length).length = _
      rw [List.length_take]
      omega
    refine p H' ⟨ρ'.pl.take st'.length, ρ'.hd⟩ v ⟨fun l a h => ?_, fun l h => ?_, ev.keep, fun l a h => ?_, ev.dom, ev.newh, ev.oldh⟩ (S'.cut c fun l o e2 => ?_) (fz_rep S' c kk v w0 x rv h3)
    · have hl : l < st'.length := by
        have := (List.getElem?_eq_some_iff.mp h).1
        rw [S.len] at this
        omega
      rw [c.pl l hl]
      exact ev.pre l a h
    · have hl : l < st'.length := by
        have := (List.getElem?_eq_some_iff.mp h).1
        omega
      rw [c.st l hl]
      exact ev.dd l h
    · have hl := (List.getElem?_eq_some_iff.mp h).1
      rw [c.lp] at hl
      rw [c.pl l hl] at h
      exact ev.new l a h
    · rcases h4 l o e2 with q | q
      · exact O.wf_mono h2 (S.wf q)
      · exact q
/-- the store stays -/
theorem Gz.pure {n : Nat} {d d' : List W → Sto → R W} (h : ∀ ws st w st', ws.length = n → wfL st.length ws = true → d' ws st = .ok w st' → st' = st ∧ ∃ w0 s2 k, d ws st = .ok w0 (st ++ s2) ∧ fz st.length (st ++ s2) k w0 = some w) (hx : ∀ ws st c s, d' ws st ≠ .ex c s) : Gz n d d' := by
  intro ws st hl hw
  cases e : d' ws st with
  | ok w st' =>
    obtain ⟨rfl, w0, s2, k, h1, h2⟩ := h ws st w st' hl hw e
    exact ⟨w0, s2, k, h1, Nat.le_refl _, h2, fun l o q => .inl q⟩
  | ex c s => exact absurd e (hx ws st c s)
  | no => exact True.intro
theorem mapO_some {f : W → Option W} (h : ∀ w, f w = some w) : ∀ ws : List W, mapO f ws = some ws
  | [] => rfl
  | w :: ws => by unfold mapO; rw [h w, mapO_some h ws]
theorem mapO_ints {f : W → Option W} (h : ∀ i, f (.int i) = some (.int i)) : ∀ ns : List Int, mapO f (ns.map W.int) = some (ns.map W.int)
  | [] => rfl
  | n :: ns => by simp only [List.map_cons]; unfold mapO; rw [h n, mapO_ints h ns]
/-- a list of ints, made by the def -/
theorem fz_ints {st : Sto} {ns : List Int} {s2 : Sto} : fz st.length (st ++ .lst (ns.map W.int) :: s2) 2 (.loc st.length) = some (.fl (ns.map W.int)) := by
  simp only [fz, Nat.lt_irrefl, if_false]
  rw [List.getElem?_append_right (Nat.le_refl _)]
  simp only [Nat.sub_self, List.getElem?_cons_zero]
  rw [mapO_ints (f := fz st.length (st ++ O.lst (List.map W.int ns) :: s2) 1) (fun i => rfl)]
  rfl
end
end ML

/-! ML11: zip, enumerate -/
namespace ML
open PySem L2
noncomputable section
variable {X : Cx} {C : MC} {E : XK} {a b c e o value : Expr} {ma mb mc mo mv : Ex} {pos pos' tpos : Pos} {es : List Expr} {mr : Ax}
def zipW (xs ys : List W) : List W := List.zipWith (fun a b => W.tup [a, b]) xs ys
def valW : W → Bool
  | .fl _ => true
  | .kl _ => true
  | _ => false
theorem valW_lst {x : W} (h : valW x = true) (s s' : Sto) : lstK s x = lstK s' x := by
  cases x <;> first | rfl | cases h
theorem zipW_at (xs ys : List W) (i : Nat) : (∃ x y, (zipW xs ys)[i]? = some (.tup [x, y]) ∧ xs[i]? = some x ∧ ys[i]? = some y) ∨ ((zipW xs ys)[i]? = none ∧ (xs.length ≤ i ∨ ys.length ≤ i)) := by
  unfold zipW
  by_cases h1 : i < xs.length
  · by_cases h2 : i < ys.length
    · exact .inl ⟨xs[i], ys[i], by simp [List.getElem?_zipWith, h1, h2], by simp [h1], by simp [h2]⟩
    · exact .inr ⟨by rw [List.getElem?_eq_none_iff]; simp; omega, .inr (by omega)⟩
  · exact .inr ⟨by rw [List.getElem?_eq_none_iff]; simp; omega, .inl (by omega)⟩
theorem yld2 {H : Hp} {ρ : Pl} {st : Sto} {T : Addr} {u v : V} {x y : W} (S : RelS C H ρ st) (hT : H T = none) (r1 : Rep C.K H ρ st u x) (r2 : Rep C.K H ρ st v y) :
    Evo H ρ st (upd H T (.tup [u, v])) ρ st ∧ RelS C (upd H T (.tup [u, v])) ρ st ∧ Rep C.K (upd H T (.tup [u, v])) ρ st (.ref T) (.tup [x, y]) :=
  ⟨Evo.laid hT, S.laid hT, tup_new S hT (.cons r1 (.cons r2 .nil))⟩
theorem itz_rel {H : Hp} {ρ : Pl} {st : Sto} {a b : Addr} {x y : W} {src : Src} (S : RelS C H ρ st) (r1 : Rep C.K H ρ st (.ref a) x) (r2 : Rep C.K H ρ st (.ref b) y)
    (h : ∀ st' i o, src.at i st' = some o → ∃ xs ys, lstK st' x = some xs ∧ lstK st' y = some ys ∧ o = (zipW xs ys)[i]?) : ItRel C (Itz C.K a b) H ρ st src := by
  intro H' ρ' st' ev S' i o ho
  have q1 := r1.evo ev S.liv
  have q2 := r2.evo ev S.liv
  obtain ⟨xs, ys, e1, e2, eo⟩ := h _ _ _ ho
  obtain ⟨a', vs, ea, k1, l1⟩ := lstK_rep S' q1 e1
  obtain ⟨b', us, eb, k2, l2⟩ := lstK_rep S' q2 e2
  cases ea; cases eb
  rcases zipW_at xs ys i with ⟨x, y, hz, hx, hy⟩ | ⟨hz, hl⟩
  · rw [hz] at eo
    subst eo
    obtain ⟨v, hv, rv⟩ := l1.get hx
    obtain ⟨u, hu, ru⟩ := l2.get hy
    refine ⟨⟨vs, us, v, u, k1, k2, hv, hu⟩, fun z H'' hy => ?_⟩
    obtain ⟨T, v', u', ez, hT, eH, h1, h2⟩ := hy
    have e1 := h1 vs k1
    have e2 := h2 us k2
    rw [hv] at e1; cases e1
    rw [hu] at e2; cases e2
    rw [ez, eH]
    exact yld2 S' hT rv ru
  · rw [hz] at eo
    subst eo
    exact ⟨vs, us, k1, k2, by rw [l1.length, l2.length]; exact hl⟩
theorem itzT_rel {H : Hp} {ρ : Pl} {st : Sto} {a b : Addr} {vs us : List V} {xs ys : List W} (S : RelS C H ρ st) (k1 : SqT C.K H a vs) (k2 : SqT C.K H b us) (l1 : RepL C.K H ρ st vs xs) (l2 : RepL C.K H ρ st us ys) : ItRel C (RZ.ItzT C.K a b) H ρ st (.st (zipW xs ys)) := by
  intro H' ρ' st' ev S' i o ho
  have k1 := SqT.evo ev S.liv k1
  have k2 := SqT.evo ev S.liv k2
  have l1 := l1.evo ev S.liv
  have l2 := l2.evo ev S.liv
  cases ho
  rcases zipW_at xs ys i with ⟨x, y, hz, hx, hy⟩ | ⟨hz, hl⟩
  · rw [hz]
    obtain ⟨v, hv, rv⟩ := l1.get hx
    obtain ⟨u, hu, ru⟩ := l2.get hy
    refine ⟨⟨vs, us, v, u, k1, k2, hv, hu⟩, fun z H'' hy => ?_⟩
    obtain ⟨T, v', u', ez, hT, eH, h1, h2⟩ := hy
    have e1 := h1 vs k1
    have e2 := h2 us k2
    rw [hv] at e1; cases e1
    rw [hu] at e2; cases e2
    rw [ez, eH]
    exact yld2 S' hT rv ru
  · rw [hz]
    exact ⟨vs, us, k1, k2, by rw [l1.length, l2.length]; exact hl⟩
def zpF (x y : W) (s : Sto) : R Src := match lstK s x, lstK s y with
  | some xs, some ys => if (valW x && valW y) = true then .ok (.st (zipW xs ys)) s else .ok (.dy (xs.length + 1) fun i st' => match lstK st' x, lstK st' y with
    | some xs, some ys => some ((zipW xs ys)[i]?)
    | _, _ => none) s
  | _, _ => .no
def zpI (m : Ax) : Ix := fun env st => (m env st).bind fun ws s => match ws with
  | [.tup xs, .tup ys] => .ok (.st (zipW xs ys)) s
  | [x, y] => zpF x y s
  | _ => .no
theorem mi_zip {p : Pos} {elts : List Expr} {kk : Nat} (hK : C.K = X.K) (hg : Gl X "zip") (hm : X.mg "zip" = none) (ha : MA' X C E [a, b] mr)
    (hs : starEach [a, b] X.env = (false, eval a X.env) :: starEach [b] X.env := by rfl) (hpl : (backTo pos (starEach [b] X.env)).any (·.1) = false := by rfl) :
    MI X C E (.Tuple elts kk tpos) (.Call (.Name "zip" p) [a, b] [] pos) (zpI mr) := by
  refine PI.imp (RZ.pi_zipA hg hm ha.pa hs hpl) fun σ H R ⟨ρ, st, env, re, S, p⟩ => ⟨ρ, st, env, re, S, Post.bind (rel := relWs C) p fun ws s1 H1 ρ1 vs hw e1 S1 r1 p1 => ?_⟩
  rw [← hK]
  split at p1
  · obtain ⟨v, u, rfl, q1, q2⟩ := r1.two
    cases q1 with
    | tup k1 l1 => cases q2 with
      | tup k2 l2 => exact ⟨_, _, _, _, rfl, .inr ⟨k1, k2, p1 H1 ρ1 _ (Evo.refl ..) S1 (itzT_rel S1 k1 k2 l1 l2)⟩⟩
  · obtain ⟨v, u, rfl, q1, q2⟩ := r1.two
    unfold zpF at p1
    split at p1
    · rename_i xs ys h1 h2
      obtain ⟨a, vs, rfl, k1, l1⟩ := lstK_rep S1 q1 h1
      obtain ⟨b, us, rfl, k2, l2⟩ := lstK_rep S1 q2 h2
      split at p1
      · rename_i hv
        rw [Bool.and_eq_true] at hv
        refine ⟨_, _, _, _, rfl, .inl ⟨k1, k2, p1 H1 ρ1 _ (Evo.refl ..) S1 (itz_rel S1 q1 q2 fun st' i o ho => ⟨xs, ys, ?_, ?_, ?_⟩)⟩⟩
        · rw [valW_lst hv.1 st' s1, h1]
        · rw [valW_lst hv.2 st' s1, h2]
        · cases ho; rfl
      · refine ⟨_, _, _, _, rfl, .inl ⟨k1, k2, p1 H1 ρ1 _ (Evo.refl ..) S1 (itz_rel S1 q1 q2 fun st' i o ho => ?_)⟩⟩
        simp only [Src.at] at ho
        split at ho
        · rename_i xs ys e1 e2
          cases ho
          exact ⟨xs, ys, e1, e2, rfl⟩
        · cases ho
    · exact p1.elim
  · exact p1.elim
/-! enumerate -/
def enG (i : Nat) (w : W) : W := .tup [.int (i : Nat), w]
theorem ite_rel {H : Hp} {ρ : Pl} {st s : Sto} {a : Addr} {w : W} {src : Src} (S : RelS C H ρ st) (r : Rep C.K H ρ st (.ref a) w) (h : ∀ st' i o, src.at i st' = some o → ∃ ws, lstK st' w = some ws ∧ o = ws[i]?.map (enG i)) : ItRel C (Ite C.K a) H ρ st src := by
  intro H' ρ' st' ev S' i o ho
  have r' := r.evo ev S.liv
  obtain ⟨ws, e, eo⟩ := h _ _ _ ho
  obtain ⟨a', vs', ea, q', rr⟩ := lstK_rep S' r' e
  cases ea
  subst eo
  cases ei : ws[i]? with
  | none => exact ⟨vs', q', by rw [rr.length]; exact List.getElem?_eq_none_iff.mp ei⟩
  | some x =>
    obtain ⟨v, hv, rv⟩ := rr.get ei
    refine ⟨⟨vs', v, q', hv⟩, fun y H'' hy => ?_⟩
    obtain ⟨T, v', ez, hT, eH, h1⟩ := hy
    have e1 := h1 vs' q'
    rw [hv] at e1; cases e1
    rw [ez, eH]
    exact yld2 S' hT (.int _) rv
def enI (m : Ax) : Ix := fun env st => (m env st).bind fun ws s => match ws with
  | [w] => match srcL enG w s with
    | some src => .ok src s
    | none => .no
  | _ => .no
theorem mi_enum {p : Pos} {elts : List Expr} {kk : Nat} (hK : C.K = X.K) (hg : Gl X "enumerate") (hm : X.mg "enumerate" = none) (ha : MA' X C E [a] mr) (hs : starEach [a] X.env = [(false, eval a X.env)] := by rfl) :
    MI X C E (.Tuple elts kk tpos) (.Call (.Name "enumerate" p) [a] [] pos) (enI mr) := by
  refine PI.imp (pi_enum hg hm ha.pa hs) fun σ H R ⟨ρ, st, env, re, S, p⟩ => ⟨ρ, st, env, re, S, Post.bind (rel := relWs C) p fun ws s1 H1 ρ1 vs hw e1 S1 r1 p1 => ?_⟩
  rw [← hK]
  split at p1
  · obtain ⟨v, rfl, q1⟩ := r1.one
    split at p1
    · rename_i src e0
      obtain ⟨ws, ek⟩ := srcL_lst e0
      obtain ⟨a, vs, rfl, q, r⟩ := lstK_rep S1 q1 ek
      exact ⟨a, vs, rfl, q, p1 H1 ρ1 _ (Evo.refl ..) S1 (ite_rel (s := s1) S1 q1 fun st' i o ho => srcL_at e0 ho)⟩
    · exact p1.elim
  · exact p1.elim
end
end ML

/-! ML12: a comprehension with a place; == by an own __eq__; isinstance of an own class -/
namespace ML
open PySem L2
noncomputable section
section
variable {K : PySem.W.Frag} {H : Hp} {ρ : Pl} {st : Sto} {D : Addr} {u : O}
theorem NL.placed (hD : D ∈ ρ.hd) {a : Addr} (n : NL ρ st a) : NL ((ρ.show D).add D) (st ++ [u]) a := by
  refine ⟨fun l q => ?_, fun h => n.2 (show_sub h)⟩
  rcases add_at (ρ := ρ.show D) q with q | ⟨_, q⟩
  · have := n.1 l q
    rw [List.getElem?_append_left (List.getElem?_eq_some_iff.mp this).1]
    exact this
  · exact absurd (q ▸ hD) n.2
mutual
theorem Rep.placed (hD : D ∈ ρ.hd) : ∀ {v : V} {w : W}, Rep K H ρ st v w → Rep K H ((ρ.show D).add D) (st ++ [u]) v w
  | _, _, .non => .non
  | _, _, .bl b => .bl b
  | _, _, .int i => .int i
  | _, _, .str x => .str x
  | _, _, .raw v => .raw v
  | _, _, .tup h r => .tup h (RepL.placed hD r)
  | _, _, .fl h n r => .fl h (n.placed hD) (RepL.placed hD r)
  | _, _, .kl h r => .kl (by
      rcases h with ⟨h, n⟩ | h
      · exact .inl ⟨h, n.placed hD⟩
      · exact .inr h) (RepL.placed hD r)
  | _, _, .loc h => .loc (add_old (ρ := ρ.show D) h)
theorem RepL.placed (hD : D ∈ ρ.hd) : ∀ {vs : List V} {ws : List W}, RepL K H ρ st vs ws → RepL K H ((ρ.show D).add D) (st ++ [u]) vs ws
  | _, _, .nil => .nil
  | _, _, .cons h r => .cons (Rep.placed hD h) (RepL.placed hD r)
end
theorem RepK.placed (hD : D ∈ ρ.hd) : ∀ {kvs : List (Key × V)} {kws : List (Key × W)}, RepK K H ρ st kvs kws → RepK K H ((ρ.show D).add D) (st ++ [u]) kvs kws
  | [], [], _ => trivial
  | (k, v) :: kvs, (j, w) :: kws, h => ⟨h.1, h.2.1.placed hD, RepK.placed hD h.2.2⟩
  | [], _ :: _, h => h.elim
  | _ :: _, [], h => h.elim
end
theorem RelS.placed {C : MC} {H : Hp} {ρ : Pl} {st : Sto} {D : Addr} {vs : List V} {ws : List W} (S : RelS C H ρ st) (hD : D ∈ ρ.hd) (hl : H D = some (.lst vs)) (ra : RepL C.K H ρ st vs ws) : RelS C H ((ρ.show D).add D) (st ++ [.lst ws]) := by
  have nD := (S.hid D hD).2
  refine ⟨by show (ρ.pl ++ [D]).length = _; simp [S.len], fun l m a h1 h2 => ?_, fun l a x h e => ?_, fun a h => ?_⟩
  · rcases add_at (ρ := ρ.show D) h1 with h1 | ⟨h1, e1⟩
    · rcases add_at (ρ := ρ.show D) h2 with h2 | ⟨h2, e2⟩
      · exact S.inj l m a h1 h2
      · rw [e2] at h1; exact absurd h1 (nD l)
    · rcases add_at (ρ := ρ.show D) h2 with h2 | ⟨h2, e2⟩
      · rw [e1] at h2; exact absurd h2 (nD m)
      · rw [h1, h2]
  · rcases add_at (ρ := ρ.show D) h with h | ⟨h, ea⟩
    · have hlt : l < st.length := by rw [← S.len]; exact (List.getElem?_eq_some_iff.mp h).1
      rw [List.getElem?_append_left hlt] at e
      have q := S.obj l a x h e
      cases x with
      | dead => exact q
      | lst ws => obtain ⟨vs, q, r⟩ := q; exact ⟨vs, q, r.placed hD⟩
      | ins c fs => obtain ⟨Cd, nm, dx, fvs, q1, q2, r1, r2, r3⟩ := q; exact ⟨Cd, nm, dx, fvs, q1, q2, r1, fun i f w a b => let ⟨v, e, r⟩ := r2 i f w a b; ⟨v, e, r.placed hD⟩, r3⟩
      | dct kws => obtain ⟨kvs, q, r⟩ := q; exact ⟨kvs, q, RepK.placed hD r⟩
    · have hl' : l = st.length := by rw [h]; exact S.len
      rw [hl', List.getElem?_append_right (Nat.le_refl _)] at e
      simp at e
      rw [ea, ← e]
      exact ⟨vs, hl, ra.placed hD⟩
  · have hs := show_sub h
    refine ⟨(S.hid a hs).1, fun l z => ?_⟩
    rcases add_at (ρ := ρ.show D) z with z | ⟨_, z⟩
    · exact (S.hid a hs).2 l z
    · rw [z] at h; exact show_not h
variable {X : Cx} {C : MC} {E : XK} {a b c e o value : Expr} {ma mb mc mo mv : Ex} {pos pos' tpos : Pos} {es : List Expr} {mr : Ax}
variable {mi : Ix} {gV : TG} {g : W → En → Option En} {kt : Bx} {own : List Nat}
/-- [e for .. in .. if ..], the list has a place -/
def lcQ (vs : List Nat) (m : Ix) (g : W → En → Option En) (t : Bx) (e : Ex) : Ex := fun env st => (lcS vs m g t e env st).bind fun ws s => .ok (.loc s.length) (s ++ [.lst ws])
theorem tLcQ_of (ct : CT C.K own gV g) {σ : St} {H : Hp} {Q : VK} (h : tM C E (lcQ own mi g kt ma) σ H Q) : tLc (tMI C E mi) gV (tMB C E kt) (tM C E ma) own σ H Q := by
  obtain ⟨ρ, st, env, re, S, p⟩ := h
  unfold lcQ lcS at p
  rw [R.bind_assoc] at p
  refine ⟨ρ, st, env, re, S, Post.bind (rel := relSrc C) p fun src s1 H1 ρ1 J hj e1 S1 rj p1 => fun D hD => ?_⟩
  have re1 := (re.evo e1 S.liv).wipe own
  have p2 : Post (relW C) C E H1 ρ1 s1 ((lcF src.at g kt ma (wipeE env own) src.n 0 [] s1).bind fun ws s => .ok (.loc s.length) (s ++ [.lst ws])) Q := by
    cases src with
    | st ws =>
      simp only at p1
      split at p1
      · rename_i hl
        have hl := ck_iff.mp hl
        have q := lcL_F (g := g) (t := kt) (e := ma) (env := wipeE env own) (ws := ws) (ws.length + 1) 0 [] s1 (by omega) (by omega) (by simp) hl
        rw [List.drop_zero] at q
        show Post (relW C) C E H1 ρ1 s1 ((lcF (fun i _ => some ws[i]?) g kt ma (wipeE env own) (ws.length + 1) 0 [] s1).bind fun ws s => .ok (.loc s.length) (s ++ [.lst ws])) Q
        rw [q, R.bind_assoc]
        simpa using p1
      · exact p1.elim
    | dy n f => exact p1
  have e0 : Evo H1 ρ1 s1 (upd H1 D (.lst [])) (ρ1.hide D) s1 := Evo.hide hD
  refine ⟨fun i m H' => ∃ ρ' st' acc vacc, Evo H1 ρ1 s1 H' ρ' st' ∧ RelS C H' ρ' st' ∧ RelE C.K H' ρ' st' (wipe σ own) (wipeE env own) ∧ H' D = some (.lst vacc) ∧ D ∈ ρ'.hd ∧ RepL C.K H' ρ' st' vacc acc ∧
      Post (relW C) C E H1 ρ1 s1 ((lcF src.at g kt ma (wipeE env own) m i acc st').bind fun ws s => .ok (.loc s.length) (s ++ [.lst ws])) Q,
    ⟨src.n, ρ1.hide D, s1, [], [], e0, S1.hide hD trivial, re1.evo e0 S1.liv, upd_same, List.mem_cons_self, .nil, p2⟩, ?_⟩
  rintro i m H' ⟨ρ', st', acc, vacc, ev, S', re', hD', hm', ra, pp⟩
  cases m with
  | zero => exact pp.elim
  | succ n =>
    unfold lcF at pp
    cases ei : src.at i st' with
    | none => rw [ei] at pp; exact pp.elim
    | some o =>
      have q := rj H' ρ' st' ev S' i o ei
      rw [ei] at pp
      cases o with
      | none =>
        refine .inl ⟨q, pp H' ((ρ'.show D).add D) _ ⟨fun l a h => ?_, fun l h => ?_, ev.keep, fun l a h => ?_, ev.dom, fun a h => ev.newh a (show_sub h), fun a h => show_mem (ev.oldh a h) fun z => ?_⟩ (S'.placed hm' hD' ra) ?_⟩
        · exact add_old (ρ := ρ'.show D) (ev.pre l a h)
        · rw [List.getElem?_append_left (List.getElem?_eq_some_iff.mp (ev.dd l h)).1]
          exact ev.dd l h
        · rcases add_at (ρ := ρ'.show D) h with h | ⟨_, h⟩
          · exact ev.new l a h
          · rw [h]; exact .inr hD
        · obtain ⟨⟨u, e, _⟩, _⟩ := S1.hid a h
          rw [z, hD] at e; cases e
        · refine .loc ?_
          rw [← S'.len]
          exact add_new (ρ := ρ'.show D)
      | some w =>
        simp only at pp
        cases eg : g w (wipeE env own) with
        | none => rw [eg] at pp; exact pp.elim
        | some env1 =>
          rw [eg] at pp
          simp only [R.bind_assoc] at pp
          refine .inr ⟨q.1, fun H' => ∃ ρ' st' acc vacc, Evo H1 ρ1 s1 H' ρ' st' ∧ RelS C H' ρ' st' ∧ RelE C.K H' ρ' st' (wipe σ own) (wipeE env own) ∧ H' D = some (.lst vacc) ∧ D ∈ ρ'.hd ∧ RepL C.K H' ρ' st' vacc acc ∧
            Post (relW C) C E H1 ρ1 s1 ((lcF src.at g kt ma (wipeE env own) n (i + 1) acc st').bind fun ws s => .ok (.loc s.length) (s ++ [.lst ws])) Q, fun H' q => ⟨n, Nat.lt_succ_self n, q⟩, fun x H2 hy => ?_⟩
          obtain ⟨ev2, S2, rx⟩ := q.2 x H2 hy
          have on : ∀ {H3 ρ3 s3}, Evo H' ρ' st' H3 ρ3 s3 → Evo H1 ρ1 s1 H3 ρ3 s3 ∧ RelE C.K H3 ρ3 s3 (wipe σ own) (wipeE env own) ∧ H3 D = some (.lst vacc) ∧ D ∈ ρ3.hd ∧ RepL C.K H3 ρ3 s3 vacc acc := fun {H3 ρ3 s3} e3 =>
            ⟨ev.trans e3, re'.evo e3 S'.liv, e3.keep D _ hD' (fun l q => absurd q ((S'.hid D hm').2 l)), e3.oldh D hm', ra.evo e3 S'.liv⟩
          refine ct.ok H2 ρ' st' (wipe σ own) (wipeE env own) env1 x w _ (re'.evo ev2 S'.liv) rx eg fun σ1 re3 hw => ⟨hw.trans (wipe_wipe σ own), ?_⟩
          refine ⟨ρ', st', env1, re3, S2, Post.bindAt (rel := relB) pp (ev.trans ev2) fun k s3 H3 ρ3 kv hk e3 S3 rk p3 => ?_⟩
          have rk : kv = k := rk
          subst rk
          cases kv with
          | false =>
            refine (if_neg (by decide)).mpr ?_
            obtain ⟨a1, a2, a4, a5, a6⟩ := on (ev2.trans e3)
            exact ⟨ρ3, s3, acc, vacc, a1, S3, a2, a4, a5, a6, p3⟩
          | true =>
            refine (if_pos rfl).mpr ?_
            simp only [if_true, R.bind_assoc] at p3
            refine ⟨ρ3, s3, env1, re3.evo e3 S2.liv, S3, Post.bindAt (rel := relW C) p3 ((ev.trans ev2).trans e3) fun y s4 H4 ρ4 vy hy4 e4 S4 ry p4 => ?_⟩
            obtain ⟨a1, a2, a4, a5, a6⟩ := on ((ev2.trans e3).trans e4)
            split at p4
            · rename_i hl
              have hm : ∃ u, H4 D = some u ∧ isMutO u := ⟨_, a4, trivial⟩
              refine ⟨vacc, a4, by rw [a6.length]; exact Nat.lt_of_lt_of_le (ck_iff.mp hl) (by decide), ?_⟩
              refine ⟨ρ4, s4, acc ++ [y], vacc ++ [vy], ?_, S4.hidw a5 trivial, ?_, upd_same, a5, (a6.hidw a5 hm).append (.cons (ry.hidw a5 hm) .nil), p4⟩
              · have neD : ∀ b o, H1 b = some o → b ≠ D := fun b o hb z => by rw [z, hD] at hb; cases hb
                exact ⟨a1.pre, a1.dd, fun b o hb nl => by rw [upd_ne (neD b o hb)]; exact a1.keep b o hb nl, a1.new, fun b hb => by
                  by_cases z : b = D
                  · rw [z]; exact hD
                  · rw [upd_ne z] at hb; exact a1.dom b hb, a1.newh, a1.oldh⟩
              · exact ⟨a2.1, fun i w e => let ⟨v, q, r⟩ := a2.2 i w e; ⟨v, q, r.hidw a5 hm⟩⟩
            · exact p4.elim
variable {elt tg iter : Expr} {ifs : List Expr} {scope : Scope} {ownP : List (Str × Nat)}
/-- a comprehension, its list has a place -/
theorem me_lcQ {mt : Ex} (ct : CT C.K (ownP.map (·.2)) gV g) (hc : X.calm = true) (hN : X.N.Nodup) (hi : MI X C E tg iter mi) (ok : BlkOk X.N X.env.scope scope ownP)
    (hg : ∀ (s : Shared) (H : Hp) (C : Addr) (cl : List (Str × Addr)) (fp : List Addr), PG (X.blk s H scope (compEnvC scope cl C X.env) fp) tg gV) (ht : ∀ (s : Shared) (H : Hp) (Cc : Addr) (cl : List (Str × Addr)) (fp : List Addr), PTs (X.blk s H scope (compEnvC scope cl Cc X.env) fp) ifs (tMB C E kt))
    (he : ∀ (s : Shared) (H : Hp) (Cc : Addr) (cl : List (Str × Addr)) (fp : List Addr), ME (X.blk s H scope (compEnvC scope cl Cc X.env) fp) C E elt mt) (hs : ∀ x, foldedSetIterable iter X.env x = pure x := by intro _; rfl) :
    ME X C E (.ListComp elt [⟨tg, iter, ifs, 0⟩] scope pos) (lcQ (ownP.map (·.2)) mi g kt mt) :=
  PE.imp (pe_lc hc hN hi ok hg ht he hs) fun _ _ _ h => tLcQ_of ct h
/-- name = [..] -/
theorem ms_setLcQ {mt : Ex} {i : Nat} {y : Str} {py spos : Pos} (ct : CT C.K (ownP.map (·.2)) gV g) (hc : X.calm = true) (hN : X.N.Nodup) (hy : X.N[i]? = some y) (hyl : X.env.scope.names.lookup y = some .local)
    (hsw : swapsWith (.ListComp elt [⟨tg, iter, ifs, 0⟩] scope pos) (some (.Name y py)) spos.line X.env = pure true) (hi : MI X C E tg iter mi) (ok : BlkOk X.N X.env.scope scope ownP)
    (hg : ∀ (s : Shared) (H : Hp) (C : Addr) (cl : List (Str × Addr)) (fp : List Addr), PG (X.blk s H scope (compEnvC scope cl C X.env) fp) tg gV) (ht : ∀ (s : Shared) (H : Hp) (Cc : Addr) (cl : List (Str × Addr)) (fp : List Addr), PTs (X.blk s H scope (compEnvC scope cl Cc X.env) fp) ifs (tMB C E kt))
    (he : ∀ (s : Shared) (H : Hp) (Cc : Addr) (cl : List (Str × Addr)) (fp : List Addr), ME (X.blk s H scope (compEnvC scope cl Cc X.env) fp) C E elt mt) (hs : ∀ x, foldedSetIterable iter X.env x = pure x := by intro _; rfl) :
    MS X C E (.Assign [.Name y py] (.ListComp elt [⟨tg, iter, ifs, 0⟩] scope pos) spos) (setS i (lcQ (ownP.map (·.2)) mi g kt mt)) := by
  refine PS.imp (ps_setLc hc hN hy hyl hsw hi ok hg ht he hs) fun D σ H ⟨ρ, st, env, re, S, p⟩ => tLcQ_of ct ⟨ρ, st, env, re, S, PostS.bind (rel := relW C) p fun w s1 H1 ρ1 v hw e1 S1 r1 p1 => ?_⟩
  exact p1 H1 ρ1 _ (Evo.refl ..) S1 ((re.evo e1 S.liv).set r1 i)
/-! ### own classes: isinstance, == -/
structure OwnC (K : PySem.W.Frag) (Cd : Addr) : Prop where
  cl : Cls K Cd
  ha : PySem.W.findIn K (.ref Cd) "__class__" = some (some (.builtin "object.__class__"))
  hn : PySem.W.specialIn K (.builtin "object.__class__") "__get__" = some (some (.builtin "getset_descriptor.__get__"))
  tk : PySem.W.takesIn K (.builtin "object.__class__") = some true
  mr : PySem.W.mroIn K Cd (.type "object") = some true
  ci : PySem.W.isClsIn K Cd = true
  ti : PySem.W.typeIn K (.ref Cd) = some (.type "type")
  s0 : PySem.W.subIn K (.type "NoneType") (.ref Cd) = some false
  s1 : PySem.W.subIn K (.type "bool") (.ref Cd) = some false
  s2 : PySem.W.subIn K (.type "int") (.ref Cd) = some false
  s3 : PySem.W.subIn K (.type "str") (.ref Cd) = some false
  s4 : PySem.W.subIn K (.type "tuple") (.ref Cd) = some false
  s5 : PySem.W.subIn K (.type "list") (.ref Cd) = some false
theorem OwnC.sub {K : PySem.W.Frag} {Cd : Addr} (O : OwnC K Cd) (t : Ty) : PySem.W.subIn K (.type t.nm) (.ref Cd) = some false := by
  cases t with
  | non => exact O.s0
  | bl => exact O.s1
  | int => exact O.s2
  | str => exact O.s3
  | tup => exact O.s4
  | lst => exact O.s5
theorem OwnC.kit {K : PySem.W.Frag} {Cd : Addr} (O : OwnC K Cd) (t : Ty) : PySem.W.kitOne K (.type t.nm) (.ref Cd) = some false := by
  unfold PySem.W.kitOne
  rw [if_neg (by intro h; simp at h)]
  show (if ((PySem.W.clsIn K Cd).isSome && PySem.W.typeIn K (.ref Cd) == some (.type "type")) = true then PySem.W.subIn K (.type t.nm) (.ref Cd) else none) = some false
  have h := O.ci
  unfold PySem.W.isClsIn at h
  rw [if_pos (by rw [h, O.ti]; simp), O.sub t]
theorem OwnC.kitSelf {K : PySem.W.Frag} {Cd : Addr} : PySem.W.kitOne K (.ref Cd) (.ref Cd) = some true := by
  unfold PySem.W.kitOne
  rw [if_pos (by simp)]
theorem OwnC.first {K : PySem.W.Frag} {Cd : Addr} (O : OwnC K Cd) (t : Ty) : PySem.W.notFirst K Cd (.type t.nm) = true := by
  unfold PySem.W.notFirst
  rw [O.sub t]
  simp
theorem OwnC.firstSelf {K : PySem.W.Frag} {Cd : Addr} : PySem.W.notFirst K Cd (.ref Cd) = true := by
  unfold PySem.W.notFirst
  simp
theorem ins_tyx {H : Hp} {ρ : Pl} {st : Sto} {v : V} {w : W} {c : Nat} {Cd : Addr} {nm : List Str} (S : RelS C H ρ st) (r : Rep C.K H ρ st v w) (hc : C.cls[c]? = some (Cd, nm)) (O : OwnC C.K Cd) (h : isIns c w st = true) : TyX C.K H v (.ref Cd) := by
  obtain ⟨l, a, dx, fs, fvs, rfl, rfl, q1, q2, q3, q4⟩ := isIns_rep S r hc h
  exact .base (.ins q3 O.cl O.ha O.hn O.tk O.mr)
def isiO (c : Nat) (x : W) (s : Sto) : R W := if isIns c x s = true then .ok (.bl true) s else match tyOf s x with
  | some _ => .ok (.bl false) s
  | none => .no
theorem me_isiO {c : Nat} {Cd : Addr} {nm : List Str} {p p2 : Pos} {x : Str} (hK : C.K = X.K) (hc : C.cls[c]? = some (Cd, nm)) (O : OwnC X.K Cd) (ha : ME X C E a ma) (hgx : Gl X x) (hmx : X.mg x = some (.ref Cd)) (hg : Gl X "isinstance") (hm : X.mg "isinstance" = none)
    (hd : (x == ("__debug__" : Str)) = false := by decide)
    (he : starEach [a, .Name x p2] X.env = (false, eval a X.env) :: starEach [.Name x p2] X.env := by rfl) (he2 : starEach [.Name x p2] X.env = (false, eval (.Name x p2) X.env) :: starEach [] X.env := by rfl) (hpl : (backTo pos (starEach [.Name x p2] X.env)).any (·.1) = false := by rfl) :
    ME X C E (.Call (.Name "isinstance" p) [a, .Name x p2] [] pos) (un (isiO c) ma) := by
  have hcx : PE X (.Name x p2) (tC (.ref Cd)) := pe_glob hgx hmx (v := .ref Cd) rfl hd
  refine PE.imp (pe_callB call_isi hg hm (by decide +kernel) (pa_cons ha (pa_cons hcx pa_nil he2) he) (by decide) (by decide) he hpl) fun σ H Q ⟨ρ, st, env, re, S, p⟩ => ⟨ρ, st, env, re, S, Post.bind p fun x s1 H1 ρ1 v _ e1 S1 r1 p1 => ?_⟩
  unfold isiO at p1
  split at p1
  · rename_i hi
    exact ⟨v, .ref Cd, .ref Cd, .ref Cd, true, rfl, .own _, hK ▸ ins_tyx S1 r1 hc (hK ▸ O) hi, OwnC.kitSelf, p1 H1 ρ1 _ (Evo.refl ..) S1 (.bl _)⟩
  · split at p1
    · rename_i t ht
      exact ⟨v, .ref Cd, .type t.nm, .ref Cd, false, rfl, .own _, hK ▸ tyOf_rep S1 r1 ht, O.kit t, p1 H1 ρ1 _ (Evo.refl ..) S1 (.bl _)⟩
    · exact p1.elim
/-- == by the text's own __eq__ -/
def rEqO (X : Cx) (C : MC) (Cd : Addr) (d : List W → Sto → R W) : R2 := fun x y H Q => ∃ a dx fvs tb, x = .ref a ∧ H a = some (.ins Cd dx fvs) ∧ TyX X.K H y tb ∧ PySem.W.notFirst X.K Cd tb = true ∧ ∃ E', sp0 C 2 d [x, y] H (fun v H' => ∃ b, v = .bl b ∧ Q v H') E'
theorem op_eqO {k : Nat} {f Cd : Addr} {fd : FuncData} {ps : List Str} {d : List W → Sto → R W} (F : FnOk X.prog X.w X.K X.mg X.base CX0 k f fd ps (sp0 C 2 d)) (hr : Room k X.A)
    (hs : PySem.W.findIn X.K (.ref Cd) "__eq__" = some (some (.ref f))) (hf : PySem.W.isFn X.K (.ref f) = true) (hb : Binds X.K fd ps []) : OpR X (compareOp .Eq) (rEqO X C Cd d) := by
  intro pins s σ H x y v u Q I rx ry ⟨a, dx, fvs, tb, ex, ha, ty, hn, E', hsp⟩
  subst ex
  obtain rfl : v = Value.ref a := rx
  obtain ⟨P, kx, hp, _⟩ := kit_of I ry ty
  obtain ⟨mA, J, _⟩ := ins_get I.hok ha
  obtain ⟨od, J, _⟩ := J.look
  obtain ⟨m, hF⟩ := I.fr
  show wpAny (model X.prog X.w) X.A (richCompare .Eq (.ref a) u) (EP X pins σ Q) X.xe s
  refine PySem.W.cmp_K (op := .Eq) (tb := tb) hr.units0 hF I.ok.mod.kin J (kx.ty _ _ I.kIn hp) hn hs hf ?_
  have hl := F.len _ _ _ _ hsp
  have r2 : Vals [V.ref a, y] [Value.ref a, u] := .cons rfl (.cons ry .nil)
  refine wpAny_call (codeAny_mono (F.run X.A X.stack s H ⟨[.ref a, u], []⟩ [.ref a, u] [.ref a, y] _ _ hr I.env0 (by
    have := hb s [.ref a, u] I.kIn (by simpa using hl)
    simpa using this) r2 hsp) fun r s' hq => ?_)
  cases r with
  | error e => exact pass0 pins σ H s e s' I hq
  | ok fl =>
    cases fl with
    | ret w =>
      obtain ⟨z, H', I', rz, b, ez, hQ⟩ := I.after hq
      subst ez
      cases rz
      exact ⟨.bl b, H', I', rfl, hQ⟩
    | next => exact False.elim hq
    | brk => exact False.elim hq
    | cont => exact False.elim hq
def eqO (c : Nat) (d : List W → Sto → R W) (x y : W) (s : Sto) : R W := if isIns c x s = true ∧ (isIns c y s = true ∨ (tyOf s y).isSome = true) then (d [x, y] s).bind fun z s' => match z with
    | .bl b => .ok (.bl b) s'
    | _ => .no else .no
theorem om_eqO {c : Nat} {Cd : Addr} {nm : List Str} {d : List W → Sto → R W} (hK : C.K = X.K) (hc : C.cls[c]? = some (Cd, nm)) (O : OwnC X.K Cd) : OpM C E0 (rEqO X C Cd d) (eqO c d) := by
  intro H ρ st v u x y Q S rx ry p
  unfold eqO at p
  split at p
  · rename_i h
    obtain ⟨h1, h2⟩ := h
    obtain ⟨l, a, dx, fs, fvs, rfl, rfl, q1, q2, q3, q4⟩ := isIns_rep S rx hc h1
    have fin : sp0 C 2 d [.ref a, u] H (fun v H' => ∃ b, v = .bl b ∧ Q v H') E0 := by
      refine ⟨rfl, ρ, st, [.loc l, y], .cons rx (.cons ry .nil), S, Post.bind p fun z s1 H1 ρ1 vz hz e1 S1 r1 p1 => ?_⟩
      split at p1
      · cases r1
        exact ⟨_, rfl, p1 H1 ρ1 _ (Evo.refl ..) S1 (.bl _)⟩
      · exact p1.elim
    by_cases hy : isIns c y st = true
    · exact ⟨a, dx, fvs, .ref Cd, rfl, q3, hK ▸ ins_tyx S ry hc (hK ▸ O) hy, OwnC.firstSelf, _, fin⟩
    · have h3 := h2.resolve_left hy
      cases ht : tyOf st y with
      | none => rw [ht] at h3; cases h3
      | some t => exact ⟨a, dx, fvs, .type t.nm, rfl, q3, hK ▸ tyOf_rep S ry ht, O.first t, _, fin⟩
  · exact p.elim
end
end ML

/-! ML13: xs[i] op= e -/
namespace ML
open PySem L2
noncomputable section
section
variable {X : Cx} {C : MC} {E : XK} {a b c e o value : Expr} {ma mb mc mo mi mv : Ex} {pos pos' tpos : Pos} {es : List Expr} {mr : Ax}
theorem get_list : PGet X (rIxL X.K) := by
  intro pins s σ H x y v u Q I rx ry h
  obtain ⟨p, xs, i, z, rfl, rfl, hq, he, q⟩ := h
  cases rx
  obtain ⟨t, rfl⟩ := ry
  obtain ⟨its, r, pl, hz⟩ := I.list hq
  obtain ⟨j, h1, h2, h3, h4, h5⟩ := atI_get he
  obtain ⟨w, ew, rw'⟩ := r.get h2
  have hl := r.length
  have hn := line63
  have fin : EP X pins σ Q w s := ⟨z, H, I, rw', q⟩
  by_cases h0 : 0 ≤ i
  · have hj : i.toNat = j := by
      rw [seqIndex_of h0 h5] at h1
      exact Option.some.inj h1
    exact wpAny_getItem_list pl.isList h0 (by omega) (by rw [hj]; simpa using ew) fin
  · have hj : (i + (its.toArray.size : Int)).toNat = j := by
      rw [seqIndex_neg (by omega) h4] at h1
      rw [List.size_toArray, ← hl]
      exact Option.some.inj h1
    exact wpAny_getItem_list_neg pl.isList (by omega) (by rw [List.size_toArray] <;> omega) (by omega) (by rw [hj]; simpa using ew) fin
theorem me_gstr {x i : Str} {pos : Pos} (hg : Gl X x) (hm : ∃ t, X.mg x = some (.str i t)) (hd : (x == ("__debug__" : Str)) = false := by decide) : ME X C E (.Name x pos) (kk (.str i)) := by
  obtain ⟨t, hm⟩ := hm
  exact me_glob hg hm (v := .str i) ⟨t, rfl⟩ ⟨fun _ _ _ => .str i⟩ hd
def ixP (x y : W) (s : Sto) : R W := match x, y with
  | .loc l, .int k => match s[l]? with
    | some (.lst ws) => match atI ws k with
      | some w => .ok w s
      | none => .no
    | _ => .no
  | _, _ => .no
def augI (g : W → W → Sto → R W) (mo mi mv : Ex) : Sx := fun env st => (mo env st).toS fun x s1 => (mi env s1).toS fun y s2 => (ixP x y s2).toS fun old s3 => (mv env s3).toS fun w s4 => (g old w s4).toS fun z s5 => (setI x y z s5).toS fun _ s6 => .nx env s6
theorem ms_augI {op : Operator} {ti : TIp} {f : W → W → Sto → R W} (hK : C.K = X.K) (ho : ME X C E o mo) (hi : ME X C E a mi) (hv : ME X C E value mv) (hp : PIp X op ti) (hf : OpM C E ti f)
    (ha : ∀ ov iv new, augStore a ov iv new = (do holding [new, ov, iv] (setItem ov iv new); release [new, ov, iv] []; pure .next) := by intros; rfl) : MS X C E (.AugAssign (.Subscript o a tpos) op value pos) (augI f mo mi mv) := by
  refine PS.imp (ps_augS ho hi get_list hv hp set_list ha) fun D σ H ⟨ρ, st, env, re, S, p⟩ => ⟨ρ, st, env, re, S, PostS.bind p fun x s1 H1 ρ1 vx hx e1 S1 r1 p1 => ?_⟩
  have re1 := re.evo e1 S.liv
  refine ⟨ρ1, s1, env, re1, S1, PostS.bind p1 fun y s2 H2 ρ2 vy hy e2 S2 r2 p2 => ?_⟩
  have re2 := re1.evo e2 S1.liv
  have rx := r1.evo e2 S1.liv
  unfold ixP at p2
  split at p2
  · rename_i l k
    split at p2
    · rename_i ws es
      split at p2
      · rename_i old hold
        rw [R.toS_ok] at p2
        cases r2
        cases rx with
        | @loc ad l q =>
          obtain ⟨zs, hz, rz⟩ := S2.obj _ ad _ q es
          obtain ⟨vo, hvo, ro⟩ := atI_rep rz hold
          refine ⟨ad, zs, k, vo, rfl, rfl, hK ▸ (.inl (.inl hz)), hvo, ?_⟩
          refine ⟨ρ2, s2, env, re2, S2, PostS.bind p2 fun w s4 H4 ρ4 vw hw e4 S4 r4 p4 => ?_⟩
          have re4 := re2.evo e4 S2.liv
          refine hf H4 ρ4 s4 vo vw old w _ S4 (ro.evo e4 S2.liv) r4 (PostS.bind p4 fun z s5 H5 ρ5 vz hz5 e5 S5 r5 p5 => ?_)
          have q5 : ρ5.pl[l]? = some ad := e5.pre _ _ (e4.pre _ _ q)
          unfold setI at p5
          simp only at p5
          split at p5
          · rename_i ws' es'
            split at p5
            · rename_i j hj
              rw [R.toS_ok] at p5
              obtain ⟨zs', hz', rz'⟩ := S5.obj _ ad _ q5 es'
              obtain ⟨ev, S6⟩ := lst_write S5 q5 es' (rz'.set r5 j)
              exact ⟨ad, zs', _, j, rfl, rfl, hz', by rw [rz'.length]; exact hj, p5 _ ρ5 σ ev S6 ((re4.evo e5 S4.liv).evo ev S5.liv)⟩
            · exact p5.elim
          · exact p5.elim
      · exact p2.elim
    · exact p2.elim
  · exact p2.elim
end
end
end ML

/-! ML14: tools for the plain side: answers by what the arguments tell, loops, comprehensions, equality of told values -/
namespace ML
open PySem L2
noncomputable section
/-! ### lists made by a def, given as values -/
theorem mapO_imp {f g : W → Option W} (h : ∀ w w', f w = some w' → g w = some w') : ∀ {ws ws' : List W}, mapO f ws = some ws' → mapO g ws = some ws'
  | [], _, e => e
  | w :: ws, ws', e => by
    unfold mapO at e ⊢
    split at e
    · rename_i a b e1 e2
      rw [h _ _ e1, mapO_imp h e2]
      exact e
    · cases e
theorem fz_succ {n : Nat} {s : Sto} : ∀ (k : Nat) (w w' : W), fz n s k w = some w' → fz n s (k + 1) w = some w'
  | 0, w, w', e => by cases e
  | k + 1, w, w', e => by
    have ih := fz_succ (n := n) (s := s) k
    cases w with
    | tup ws =>
      simp only [fz, Option.map_eq_some_iff] at e ⊢
      obtain ⟨a, e, r⟩ := e
      exact ⟨a, mapO_imp ih e, r⟩
    | fl ws =>
      simp only [fz, Option.map_eq_some_iff] at e ⊢
      obtain ⟨a, e, r⟩ := e
      exact ⟨a, mapO_imp ih e, r⟩
    | kl ws =>
      simp only [fz, Option.map_eq_some_iff] at e ⊢
      obtain ⟨a, e, r⟩ := e
      exact ⟨a, mapO_imp ih e, r⟩
    | loc l =>
      simp only [fz] at e ⊢
      split at e
      · rename_i h
        rw [if_pos h]; exact e
      · rename_i h
        rw [if_neg h]
        split at e
        · rename_i ws es
          simp only [es, Option.map_eq_some_iff] at e ⊢
          obtain ⟨a, e, r⟩ := e
          exact ⟨a, mapO_imp ih e, r⟩
        · cases e
    | _ => exact e
theorem fz_le {n : Nat} {s : Sto} {k m : Nat} {w w' : W} (h : fz n s k w = some w') (le : k ≤ m) : fz n s m w = some w' := by
  induction le with
  | refl => exact h
  | step _ ih => exact fz_succ _ _ _ ih
/-- given as a value -/
def Fzs (n : Nat) (s : Sto) (w w' : W) : Prop := ∃ k, fz n s k w = some w'
def FzL (n : Nat) (s : Sto) (ws ws' : List W) : Prop := ∃ k, mapO (fz n s k) ws = some ws'
theorem FzL.nil {n : Nat} {s : Sto} : FzL n s [] [] := ⟨0, rfl⟩
theorem FzL.cons {n : Nat} {s : Sto} {w w' : W} {ws ws' : List W} (h : Fzs n s w w') (r : FzL n s ws ws') : FzL n s (w :: ws) (w' :: ws') := by
  obtain ⟨k, h⟩ := h
  obtain ⟨m, r⟩ := r
  refine ⟨max k m, ?_⟩
  unfold mapO
  rw [fz_le h (Nat.le_max_left ..), mapO_imp (fun _ _ q => fz_le q (Nat.le_max_right k m)) r]
theorem Fzs.tup {n : Nat} {s : Sto} {ws ws' : List W} (h : FzL n s ws ws') : Fzs n s (.tup ws) (.tup ws') := by
  obtain ⟨k, h⟩ := h
  exact ⟨k + 1, by simp only [fz, h, Option.map_some]⟩
theorem Fzs.fl {n : Nat} {s : Sto} {ws ws' : List W} (h : FzL n s ws ws') : Fzs n s (.fl ws) (.fl ws') := by
  obtain ⟨k, h⟩ := h
  exact ⟨k + 1, by simp only [fz, h, Option.map_some]⟩
theorem Fzs.kl {n : Nat} {s : Sto} {ws ws' : List W} (h : FzL n s ws ws') : Fzs n s (.kl ws) (.kl ws') := by
  obtain ⟨k, h⟩ := h
  exact ⟨k + 1, by simp only [fz, h, Option.map_some]⟩
theorem Fzs.loc {n : Nat} {s : Sto} {l : Nat} {ws ws' : List W} (hl : n ≤ l) (e : s[l]? = some (.lst ws)) (h : FzL n s ws ws') : Fzs n s (.loc l) (.fl ws') := by
  obtain ⟨k, h⟩ := h
  exact ⟨k + 1, by simp only [fz, if_neg (Nat.not_lt.mpr hl), e, h, Option.map_some]⟩
/-- without places -/
inductive Cl : W → Prop
  | non : Cl .non
  | bl (b : Bool) : Cl (.bl b)
  | int (i : Int) : Cl (.int i)
  | str (x : Str) : Cl (.str x)
  | tup {ws : List W} (h : ∀ w ∈ ws, Cl w) : Cl (.tup ws)
  | fl {ws : List W} (h : ∀ w ∈ ws, Cl w) : Cl (.fl ws)
  | kl {ws : List W} (h : ∀ w ∈ ws, Cl w) : Cl (.kl ws)
theorem FzL.all {n : Nat} {s : Sto} : ∀ {ws : List W}, (∀ w ∈ ws, Fzs n s w w) → FzL n s ws ws
  | [], _ => .nil
  | w :: ws, h => .cons (h w List.mem_cons_self) (FzL.all fun x hx => h x (List.mem_cons_of_mem _ hx))
theorem Cl.fzs {n : Nat} {s : Sto} {w : W} (h : Cl w) : Fzs n s w w := by
  induction h with
  | non => exact ⟨1, rfl⟩
  | bl b => exact ⟨1, rfl⟩
  | int b => exact ⟨1, rfl⟩
  | str b => exact ⟨1, rfl⟩
  | tup _ ih => exact .tup (FzL.all ih)
  | fl _ ih => exact .fl (FzL.all ih)
  | kl _ ih => exact .kl (FzL.all ih)
theorem Cl.map {α : Type} {f : α → W} {xs : List α} (h : ∀ x, Cl (f x)) : ∀ w ∈ xs.map f, Cl w := fun w hw => by
  obtain ⟨x, _, rfl⟩ := List.mem_map.mp hw
  exact h x
theorem Cl.map' {α : Type} {f : α → W} {xs : List α} (h : ∀ x ∈ xs, Cl (f x)) : ∀ w ∈ xs.map f, Cl w := fun w hw => by
  obtain ⟨x, hx, rfl⟩ := List.mem_map.mp hw
  exact h x hx
/-- a list with closed items at a place of the def's own -/
theorem Fzs.locC {n : Nat} {s : Sto} {l : Nat} {ws : List W} (hl : n ≤ l) (e : s[l]? = some (.lst ws)) (h : ∀ w ∈ ws, Cl w) : Fzs n s (.loc l) (.fl ws) :=
  .loc hl e (FzL.all fun w hw => (h w hw).fzs)

/-! ### answers by what the arguments tell -/
open Classical in
def pur {α : Type} (Enc : List W → Sto → α → Prop) (out : α → W) (ws : List W) (st : Sto) : R W :=
  if h : ∃ a, Enc ws st a then .ok (out h.choose) st else .no
theorem pur_ok {α : Type} {Enc : List W → Sto → α → Prop} {out : α → W} {ws : List W} {st : Sto} {a : α} (h : Enc ws st a) (u : ∀ b, Enc ws st b → out b = out a) : pur Enc out ws st = .ok (out a) st := by
  have q : ∃ a, Enc ws st a := ⟨a, h⟩
  unfold pur
  rw [dif_pos q, u _ q.choose_spec]
theorem gz_pur {α : Type} {n : Nat} {d : List W → Sto → R W} {Enc : List W → Sto → α → Prop} {out : α → W} (h : ∀ ws st a, Enc ws st a → ∃ w0 s2, d ws st = .ok w0 (st ++ s2) ∧ Fzs st.length (st ++ s2) w0 (out a)) : Gz n d (pur Enc out) := by
  refine Gz.pure (fun ws st w st' _ _ e => ?_) (fun ws st c s e => ?_)
  · unfold pur at e
    split at e
    · rename_i q
      cases e
      obtain ⟨w0, s2, h1, k, h2⟩ := h ws st _ q.choose_spec
      exact ⟨rfl, w0, s2, k, h1, h2⟩
    · cases e
  · unfold pur at e
    split at e <;> cases e
/-- the arguments are enc a -/
def pureF {α : Type} (enc : α → List W) (P : α → Prop) (out : α → W) : List W → Sto → R W := pur (fun ws _ a => ws = enc a ∧ P a) out
theorem pureF_ok {α : Type} {enc : α → List W} {P : α → Prop} {out : α → W} {st : Sto} (inj : ∀ a b, enc a = enc b → a = b) {a : α} (h : P a) : pureF enc P out (enc a) st = .ok (out a) st :=
  pur_ok ⟨rfl, h⟩ fun b hb => by rw [inj _ _ hb.1]
theorem gz_pureF {α : Type} {n : Nat} {d : List W → Sto → R W} {enc : α → List W} {P : α → Prop} {out : α → W} (h : ∀ a st, P a → ∃ w0 s2, d (enc a) st = .ok w0 (st ++ s2) ∧ Fzs st.length (st ++ s2) w0 (out a)) : Gz n d (pureF enc P out) :=
  gz_pur fun ws st a q => by rw [q.1]; exact h a st q.2
/-- the answer stays in the store as it was -/
theorem gz_pureF0 {α : Type} {n : Nat} {d : List W → Sto → R W} {enc : α → List W} {P : α → Prop} {out : α → W} (cl : ∀ a, P a → Cl (out a)) (h : ∀ a st, P a → ∃ s2, d (enc a) st = .ok (out a) (st ++ s2)) : Gz n d (pureF enc P out) :=
  gz_pureF fun a st p => by obtain ⟨s2, e⟩ := h a st p; exact ⟨_, s2, e, (cl a p).fzs⟩

/-! ### loops -/
/-- behind a loop's body -/
def lpQ (I : En → Sto → Prop) (Q : SR → Prop) : SR → Prop
  | .nx e s => I e s
  | .ct e s => I e s
  | .bk e s => Q (.nx e s)
  | .rt w s => Q (.rt w s)
  | .ex c s => Q (.ex c s)
  | .no => False
theorem lp_q {b k : Sx} {env : En} {st : Sto} {Q : SR → Prop} (h : lpQ (fun e s => Q (k e s)) Q (b env st)) : Q (lpS b k env st) := by
  unfold lpS
  cases e : b env st <;> rw [e] at h <;> first | exact h.elim | exact h
theorem lpQ_imp {I J : En → Sto → Prop} {Q : SR → Prop} {r : SR} (h : lpQ I Q r) (k : ∀ e s, I e s → J e s) : lpQ J Q r := by
  cases r <;> first | exact k _ _ h | exact h
/-- the target takes x -/
def tkQ (g : W → En → Sto → R En) (w : W) (env : En) (st : Sto) (K : En → Sto → Prop) : Prop := match g w env st with
  | .ok e s => K e s
  | _ => False
theorem forL_wp {α : Type} {g : W → En → Sto → R En} {b : Sx} {enc : α → W} (I : List α → En → Sto → Prop) {Q : SR → Prop}
    (step : ∀ x xs env st, I (x :: xs) env st → tkQ g (enc x) env st fun e s => lpQ (I xs) Q (b e s)) (done : ∀ env st, I [] env st → Q (.nx env st)) :
    ∀ (xs : List α) (env : En) (st : Sto), I xs env st → Q (forL g b (xs.map enc) env st)
  | [], env, st, h => done env st h
  | x :: xs, env, st, h => by
    have q := step x xs env st h
    unfold tkQ at q
    rw [List.map_cons]
    unfold forL
    split at q
    · rename_i e s he
      rw [he, R.toS_ok]
      exact lp_q (lpQ_imp q fun e s hi => forL_wp I step done xs e s hi)
    · exact q.elim
theorem rng_map (lo : Int) (n : Nat) : rngL lo n = (List.range' 0 n).map fun (i : Nat) => W.int (lo + (i : Int)) := by
  unfold rngL
  rw [List.range_eq_range']
theorem forR_wp {g : W → En → Sto → R En} {b : Sx} {lo : Int} {n : Nat} (I : Nat → En → Sto → Prop) {Q : SR → Prop}
    (step : ∀ i env st, i < n → I i env st → tkQ g (.int (lo + (i : Int))) env st fun e s => lpQ (I (i + 1)) Q (b e s)) (done : ∀ env st, I n env st → Q (.nx env st)) {env : En} {st : Sto} (h : I 0 env st) :
    Q (forL g b (rngL lo n) env st) := by
  rw [rng_map]
  refine forL_wp (fun xs env st => ∃ i, xs = List.range' i (n - i) ∧ i ≤ n ∧ I i env st) (fun x xs env st hi => ?_) (fun env st hi => ?_) _ env st ⟨0, by simp, by omega, h⟩
  · obtain ⟨i, e, hn, hi⟩ := hi
    obtain ⟨m, hm⟩ : ∃ m, n - i = m + 1 := by
      cases hm : n - i with
      | zero => rw [hm] at e; cases e
      | succ m => exact ⟨m, rfl⟩
    rw [hm, List.range'_succ] at e
    injection e with e1 e2
    subst e1
    have q := step x env st (by omega) hi
    unfold tkQ at q ⊢
    split at q
    · rename_i e s he
      exact lpQ_imp q fun e s hi => ⟨x + 1, by rw [e2, show n - (x + 1) = m by omega], by omega, hi⟩
    · exact q.elim
  · obtain ⟨i, e, hn, hi⟩ := hi
    have : n - i = 0 := by
      cases hm : n - i with
      | zero => rfl
      | succ m => rw [hm, List.range'_succ] at e; cases e
    have : i = n := by omega
    subst this
    exact done env st hi
/-- over a list with a place -/
theorem forF_wp {α : Type} {f : Nat → Sto → Option (Option W)} {g : W → En → Sto → R En} {b : Sx} {enc : α → W} {all : List α} (I : Nat → En → Sto → Prop) {Q : SR → Prop}
    (src : ∀ i env st, i ≤ all.length → I i env st → f i st = some (all[i]?.map enc))
    (step : ∀ i x env st, all[i]? = some x → I i env st → tkQ g (enc x) env st fun e s => lpQ (I (i + 1)) Q (b e s)) (done : ∀ env st, I all.length env st → Q (.nx env st)) :
    ∀ (n i : Nat) (env : En) (st : Sto), all.length < n + i → i ≤ all.length → I i env st → Q (forF f g b n i env st) := by
  intro n
  induction n with
  | zero => intro i env st h1 h2; omega
  | succ n ih =>
    intro i env st h1 h2 hi
    unfold forF
    rw [src i env st h2 hi]
    by_cases hl : i < all.length
    · have e2 : all[i]? = some all[i] := by simp [hl]
      simp only [e2, Option.map_some]
      have q := step i _ env st e2 hi
      unfold tkQ at q
      split at q
      · rename_i e s he
        rw [he, R.toS_ok]
        exact lp_q (lpQ_imp q fun e s hi => ih (i + 1) e s (by omega) (by omega) hi)
      · exact q.elim
    · have e2 : all[i]? = none := List.getElem?_eq_none_iff.mpr (by omega)
      simp only [e2, Option.map_none]
      have : i = all.length := by omega
      subst this
      exact done env st hi

/-! ### comprehensions -/
/-- over known items: what is kept, what is made; the store stays -/
theorem lcL_map {α : Type} {g : W → En → Option En} {t : Bx} {e : Ex} {env : En} {enc : α → W} {p : α → Bool} {f : α → W} {st : Sto} : ∀ xs : List α,
    (∀ x ∈ xs, ∃ env1, g (enc x) env = some env1 ∧ t env1 st = .ok (p x) st ∧ (p x = true → e env1 st = .ok (f x) st)) → lcL g t e env (xs.map enc) st = .ok ((xs.filter p).map f) st
  | [], _ => rfl
  | x :: xs, h => by
    obtain ⟨env1, h1, h2, h3⟩ := h x (by simp)
    have ih := lcL_map (t := t) (e := e) (f := f) xs fun y hy => h y (by simp [hy])
    simp only [List.map_cons, lcL, h1, h2, R.bind_ok]
    by_cases hp : p x = true
    · simp only [hp, if_true, h3 hp, R.bind_ok, ih, List.filter_cons_of_pos, List.map_cons]
    · have hp : p x = false := by simpa using hp
      simp only [hp, Bool.false_eq_true, if_false, ih, List.filter_cons_of_neg, not_false_eq_true]
/-- without a test -/
theorem lcL_map1 {α : Type} {g : W → En → Option En} {e : Ex} {env : En} {enc : α → W} {f : α → W} {st : Sto} (xs : List α)
    (h : ∀ x ∈ xs, ∃ env1, g (enc x) env = some env1 ∧ e env1 st = .ok (f x) st) : lcL g yesB e env (xs.map enc) st = .ok (xs.map f) st := by
  have q := lcL_map (t := yesB) (e := e) (p := fun _ => true) (f := f) xs fun x hx => let ⟨e1, a, b⟩ := h x hx; ⟨e1, a, rfl, fun _ => b⟩
  rwa [List.filter_eq_self.mpr (fun _ _ => rfl)] at q
theorem lcL_rng {g : W → En → Option En} {t : Bx} {e : Ex} {env : En} {lo : Int} {n : Nat} {p : Nat → Bool} {f : Nat → W} {st : Sto}
    (h : ∀ i < n, ∃ env1, g (.int (lo + (i : Int))) env = some env1 ∧ t env1 st = .ok (p i) st ∧ (p i = true → e env1 st = .ok (f i) st)) : lcL g t e env (rngL lo n) st = .ok (((List.range n).filter p).map f) st := by
  unfold rngL
  exact lcL_map (enc := fun (i : Nat) => W.int (lo + (i : Int))) (List.range n) fun x hx => h x (List.mem_range.mp hx)
theorem lcL_rng1 {g : W → En → Option En} {e : Ex} {env : En} {lo : Int} {n : Nat} {f : Nat → W} {st : Sto}
    (h : ∀ i < n, ∃ env1, g (.int (lo + (i : Int))) env = some env1 ∧ e env1 st = .ok (f i) st) : lcL g yesB e env (rngL lo n) st = .ok ((List.range n).map f) st := by
  unfold rngL
  exact lcL_map1 (enc := fun (i : Nat) => W.int (lo + (i : Int))) (List.range n) fun x hx => h x (List.mem_range.mp hx)
/-- a list that stays, told by items -/
theorem lcE_fl {vs : List Nat} {m : Ex} {g : W → En → Option En} {t : Bx} {e : Ex} {env : En} {s0 st : Sto} {ws ys : List W} (hm : m env s0 = .ok (.fl ws) st) (hl : ws.length < 10000000) (h : lcL g t e (wipeE env vs) ws st = .ok ys st) :
    lcE vs (sqI m) g t e env s0 = .ok (.fl ys) st := by
  unfold lcE lcS sqI
  rw [hm, R.bind_ok]
  simp only [R.bind_ok]
  rw [if_pos (ck_iff.mpr hl), h]
  rfl
theorem lcE_kl {vs : List Nat} {m : Ex} {g : W → En → Option En} {t : Bx} {e : Ex} {env : En} {s0 st : Sto} {ws ys : List W} (hm : m env s0 = .ok (.kl ws) st) (hl : ws.length < 10000000) (h : lcL g t e (wipeE env vs) ws st = .ok ys st) :
    lcE vs (sqI m) g t e env s0 = .ok (.fl ys) st := by
  unfold lcE lcS sqI
  rw [hm, R.bind_ok]
  simp only [R.bind_ok]
  rw [if_pos (ck_iff.mpr hl), h]
  rfl
theorem lcE_tup {vs : List Nat} {m : Ex} {g : W → En → Option En} {t : Bx} {e : Ex} {env : En} {s0 st : Sto} {ws ys : List W} (hm : m env s0 = .ok (.tup ws) st) (hl : ws.length < 10000000) (h : lcL g t e (wipeE env vs) ws st = .ok ys st) :
    lcE vs (sqI m) g t e env s0 = .ok (.fl ys) st := by
  unfold lcE lcS sqI
  rw [hm, R.bind_ok]
  simp only [R.bind_ok]
  rw [if_pos (ck_iff.mpr hl), h]
  rfl
/-- any source of known items -/
theorem lcE_src {vs : List Nat} {m : Ix} {g : W → En → Option En} {t : Bx} {e : Ex} {env : En} {s0 st : Sto} {ws ys : List W} (hm : m env s0 = .ok (.st ws) st) (hl : ws.length < 10000000) (h : lcL g t e (wipeE env vs) ws st = .ok ys st) :
    lcE vs m g t e env s0 = .ok (.fl ys) st := by
  unfold lcE lcS
  rw [hm, R.bind_ok]
  simp only
  rw [if_pos (ck_iff.mpr hl), h]
  rfl
theorem lcQ_src {vs : List Nat} {m : Ix} {g : W → En → Option En} {t : Bx} {e : Ex} {env : En} {s0 st : Sto} {ws ys : List W} (hm : m env s0 = .ok (.st ws) st) (hl : ws.length < 10000000) (h : lcL g t e (wipeE env vs) ws st = .ok ys st) :
    lcQ vs m g t e env s0 = .ok (.loc st.length) (st ++ [.lst ys]) := by
  unfold lcQ lcS
  rw [hm, R.bind_ok]
  simp only
  rw [if_pos (ck_iff.mpr hl), h]
  rfl
theorem zipW_map {α β : Type} (f : α → W) (g : β → W) (xs : List α) (ys : List β) : zipW (xs.map f) (ys.map g) = (xs.zip ys).map fun p => .tup [f p.1, g p.2] := by
  unfold zipW
  rw [List.zipWith_map, List.zip_eq_zipWith, List.map_zipWith]
theorem zpI_fl {m : Ax} {env : En} {s0 st : Sto} {xs ys : List W} (h : m env s0 = .ok [.fl xs, .fl ys] st) : zpI m env s0 = .ok (.st (zipW xs ys)) st := by
  simp [zpI, h, zpF, lstK, lstOf, valW]

theorem ixN_lt {n j : Nat} (h : j < n) : ixN n (j : Int) = some j := by
  unfold ixN
  rw [if_pos (by omega), if_pos (by omega)]; simp
theorem atI_app {α β : Type} (f : β → α) (a : List β) (x : α) (b : List α) : atI (a.map f ++ x :: b) (a.length : Int) = some x := atI_nat (by simp)
theorem set_app {α β : Type} (f : β → α) (a : List β) (x y : α) (b : List α) : (a.map f ++ x :: b).set a.length y = a.map f ++ y :: b := by
  have := List.set_append_right (s := a.map f) (t := x :: b) a.length y (by simp)
  simpa using this
theorem st_top (s : Sto) (o : O) : (s ++ [o])[s.length]? = some o := by simp
theorem st_set (s : Sto) (o u : O) : (s ++ [o]).set s.length u = s ++ [u] := by simp
theorem rep_flat {α : Type} (n : Nat) (x : α) : (List.replicate n [x]).flatten = List.replicate n x := by
  induction n with
  | zero => rfl
  | succ n ih => rw [List.replicate_succ, List.flatten_cons, ih, List.replicate_succ]; rfl
theorem atI_getD {α β : Type} (f : β → α) (xs : List β) (d : β) {i : Nat} (h : i < xs.length) : atI (xs.map f) (i : Int) = some (f (xs.getD i d)) := atI_nat (by simp [h, List.getD])
theorem range_zip {α β γ : Type} (g : α → β → γ) (a0 : α) (b0 : β) (xs : List α) (ys : List β) (h : ys.length = xs.length) : (List.range xs.length).map (fun i => g (xs.getD i a0) (ys.getD i b0)) = (xs.zip ys).map fun p => g p.1 p.2 := by
  induction xs generalizing ys with
  | nil => rfl
  | cons x xs ih =>
    cases ys with
    | nil => cases h
    | cons y ys =>
      rw [List.length_cons, List.range_succ_eq_map, List.map_cons, List.map_map, List.zip_cons_cons, List.map_cons, ← ih ys (by simpa using h)]
      rfl
/-! ### ints of a list -/
theorem intsOf_mapf {α : Type} (f : α → Int) (xs : List α) : intsOf (xs.map fun x => W.int (f x)) = some (xs.map f) := by
  rw [← intsOf_map (xs.map f), List.map_map]; rfl
theorem blsOf_mapf {α : Type} (f : α → Bool) (xs : List α) : blsOf (xs.map fun x => W.bl (f x)) = some (xs.map f) := by
  rw [← blsOf_map (xs.map f), List.map_map]; rfl
theorem intsOf_mapc {α : Type} (f : α → Int) (xs : List α) : intsOf (xs.map (W.int ∘ f)) = some (xs.map f) := intsOf_mapf f xs
theorem blsOf_mapc {α : Type} (f : α → Bool) (xs : List α) : blsOf (xs.map (W.bl ∘ f)) = some (xs.map f) := blsOf_mapf f xs
theorem maxL_eq (x : Int) (xs : List Int) : maxL (x :: xs) = xs.foldl max x := by
  induction xs generalizing x with
  | nil => rfl
  | cons y ys ih =>
    show max x (maxL (y :: ys)) = (ys.foldl max (max x y))
    rw [ih]
    clear ih
    induction ys generalizing x y with
    | nil => rfl
    | cons z zs ih => simp only [List.foldl_cons]; rw [ih]; congr 1; omega

/-! ### equality of values told by types -/
/-- how a type is told by values, so that == is equality -/
structure Cod (α : Type) [DecidableEq α] where
  w : α → W
  d : α → PyData
  n : Nat
  cl : ∀ a, Cl (w a)
  dat : ∀ a, datW (w a) = some (d a)
  lay : ∀ a, PyData.canLay0 (d a) = true
  dep : ∀ a, (d a).depth ≤ n
  eqv : ∀ a b, PyData.eqv (d a) (d b) = decide (a = b)
theorem datS_tup (s : Sto) (n : Nat) (ws : List W) : datS s n (.tup ws) = datW (.tup ws) := by cases n <;> simp [datS, lstOf]
theorem datS_cl {s : Sto} {w : W} (h : Cl w) (n : Nat) : datS s n w = datW w := by
  induction h generalizing n with
  | @fl ws h ih =>
    cases n with
    | zero => rfl
    | succ n =>
      have key : ∀ ws : List W, (∀ w ∈ ws, ∀ n, datS s n w = datW w) → ws.mapM (datS s n) = datL ws := by
        intro ws
        induction ws with
        | nil => intro _; rfl
        | cons w ws ih =>
          intro h
          rw [List.mapM_cons, h w (by simp) n, ih fun x hx => h x (by simp [hx])]
          conv => rhs; unfold datL
          cases datW w <;> cases datL ws <;> rfl
      unfold datS
      simp only [lstOf]
      rw [key ws fun w hw n => ih w hw n]
      simp only [datW]
  | _ => cases n <;> simp [datS, lstOf]
section
variable {α β : Type} [DecidableEq α] [DecidableEq β]
theorem Cod.eq (c : Cod α) (hn : c.n ≤ 64) (a b : α) (s : Sto) : eqW (c.w a) (c.w b) s = .ok (.bl (decide (a = b))) s := by
  have sh : ∀ a, SeqAt.shaped (c.d a) = true := fun a => by
    unfold SeqAt.shaped
    rw [Bool.and_eq_true]
    exact ⟨c.lay a, decide_eq_true (Nat.le_trans (c.dep a) hn)⟩
  simp only [eqW, datS_cl (c.cl _), c.dat, sh, c.eqv, and_self, if_true]
theorem Cod.ne (c : Cod α) (hn : c.n ≤ 64) (a b : α) (s : Sto) : neW (c.w a) (c.w b) s = .ok (.bl (!decide (a = b))) s := by
  have sh : ∀ a, SeqAt.shaped (c.d a) = true := fun a => by
    unfold SeqAt.shaped
    rw [Bool.and_eq_true]
    exact ⟨c.lay a, decide_eq_true (Nat.le_trans (c.dep a) hn)⟩
  simp only [neW, datS_cl (c.cl _), c.dat, sh, c.eqv, and_self, if_true]
theorem datL_map (c : Cod α) : ∀ xs : List α, datL (xs.map c.w) = some (xs.map c.d)
  | [] => rfl
  | x :: xs => by simp [datL, c.dat x, datL_map c xs]
theorem lay_mapC (c : Cod α) : ∀ xs : List α, PyData.canLayAll0 (xs.map c.d) = true
  | [] => by simp [PyData.canLayAll0]
  | x :: xs => by simp [PyData.canLayAll0, c.lay x, lay_mapC c xs]
theorem dep_mapC (c : Cod α) : ∀ xs : List α, PyData.depthAll (xs.map c.d) ≤ c.n
  | [] => by simp [PyData.depthAll]
  | x :: xs => by
    have := c.dep x
    have := dep_mapC c xs
    simp only [List.map_cons, PyData.depthAll]
    omega
theorem eqv_mapC (c : Cod α) : ∀ xs ys : List α, PyData.eqvAll (xs.map c.d) (ys.map c.d) = decide (xs = ys)
  | [], [] => by simp [PyData.eqvAll]
  | [], _ :: _ => by simp [PyData.eqvAll]
  | _ :: _, [] => by simp [PyData.eqvAll]
  | x :: xs, y :: ys => by
    simp only [List.map_cons, PyData.eqvAll, c.eqv, eqv_mapC c xs ys]
    by_cases e : x = y <;> simp [e]
def cInt : Cod Int where
  w := .int
  d := .int
  n := 0
  cl := .int
  dat := fun _ => rfl
  lay := fun _ => by simp [PyData.canLay0]
  dep := fun _ => by simp [PyData.depth]
  eqv := fun a b => by simp only [PyData.eqv]; rfl
def cBl : Cod Bool where
  w := .bl
  d := .bool
  n := 0
  cl := .bl
  dat := fun _ => rfl
  lay := fun _ => by simp [PyData.canLay0]
  dep := fun _ => by simp [PyData.depth]
  eqv := fun a b => by simp only [PyData.eqv]; cases a <;> cases b <;> rfl
def cLst (c : Cod α) : Cod (List α) where
  w := fun xs => .fl (xs.map c.w)
  d := fun xs => .list (xs.map c.d)
  n := c.n + 1
  cl := fun xs => .fl (Cl.map c.cl)
  dat := fun xs => by simp only [datW, datL_map, Option.map_some]
  lay := fun xs => by simp only [PyData.canLay0]; exact lay_mapC c xs
  dep := fun xs => by have := dep_mapC c xs; simp only [PyData.depth]; omega
  eqv := fun xs ys => by simp only [PyData.eqv]; exact eqv_mapC c xs ys
def cTup (c : Cod α) : Cod (List α) where
  w := fun xs => .tup (xs.map c.w)
  d := fun xs => .tuple (xs.map c.d)
  n := c.n + 1
  cl := fun xs => .tup (Cl.map c.cl)
  dat := fun xs => by simp only [datW, datL_map, Option.map_some]
  lay := fun xs => by simp only [PyData.canLay0]; exact lay_mapC c xs
  dep := fun xs => by have := dep_mapC c xs; simp only [PyData.depth]; omega
  eqv := fun xs ys => by simp only [PyData.eqv]; exact eqv_mapC c xs ys
/-- the items of a tuple of fixed length -/
structure CodL (α : Type) [DecidableEq α] where
  w : α → List W
  d : α → List PyData
  n : Nat
  cl : ∀ a, ∀ x ∈ w a, Cl x
  dat : ∀ a, datL (w a) = some (d a)
  lay : ∀ a, PyData.canLayAll0 (d a) = true
  dep : ∀ a, PyData.depthAll (d a) ≤ n
  eqv : ∀ a b, PyData.eqvAll (d a) (d b) = decide (a = b)
def cOne (c : Cod α) : CodL α where
  w := fun a => [c.w a]
  d := fun a => [c.d a]
  n := c.n
  cl := fun a x h => by rw [List.mem_singleton.mp h]; exact c.cl a
  dat := fun a => by simp [datL, c.dat]
  lay := fun a => by simp [PyData.canLayAll0, c.lay]
  dep := fun a => by have := c.dep a; simp [PyData.depthAll]; omega
  eqv := fun a b => by simp [PyData.eqvAll, c.eqv]
def cCons (c : Cod α) (r : CodL β) : CodL (α × β) where
  w := fun a => c.w a.1 :: r.w a.2
  d := fun a => c.d a.1 :: r.d a.2
  n := max c.n r.n
  cl := fun a x h => by
    rcases List.mem_cons.mp h with e | h
    · rw [e]; exact c.cl _
    · exact r.cl _ x h
  dat := fun a => by simp [datL, c.dat, r.dat]
  lay := fun a => by simp [PyData.canLayAll0, c.lay, r.lay]
  dep := fun a => by have := c.dep a.1; have := r.dep a.2; simp only [PyData.depthAll]; omega
  eqv := fun a b => by
    simp only [PyData.eqvAll, c.eqv, r.eqv]
    obtain ⟨a1, a2⟩ := a
    obtain ⟨b1, b2⟩ := b
    by_cases e1 : a1 = b1 <;> by_cases e2 : a2 = b2 <;> simp [e1, e2]
def cTp (r : CodL α) : Cod α where
  w := fun a => .tup (r.w a)
  d := fun a => .tuple (r.d a)
  n := r.n + 1
  cl := fun a => .tup (r.cl a)
  dat := fun a => by simp only [datW, r.dat, Option.map_some]
  lay := fun a => by simp only [PyData.canLay0]; exact r.lay a
  dep := fun a => by have := r.dep a; simp only [PyData.depth]; omega
  eqv := fun a b => by simp only [PyData.eqv]; exact r.eqv a b
end
theorem eq_str (x y : Str) (s : Sto) (hx : PyData.strOk x = true) (hy : PyData.strOk y = true) : eqW (.str x) (.str y) s = .ok (.bl (x == y)) s := by
  simp [eqW, datS, lstOf, datW, SeqAt.shaped, PyData.canLay0, PyData.depth, PyData.eqv, hx, hy]
theorem ne_str (x y : Str) (s : Sto) (hx : PyData.strOk x = true) (hy : PyData.strOk y = true) : neW (.str x) (.str y) s = .ok (.bl (!(x == y))) s := by
  simp [neW, datS, lstOf, datW, SeqAt.shaped, PyData.canLay0, PyData.depth, PyData.eqv, hx, hy]
/-- equality of two values of different kinds -/
theorem eq_not {x y : W} {d e : PyData} {s : Sto} (hx : datW x = some d) (hy : datW y = some e) (cx : Cl x) (cy : Cl y) (sx : SeqAt.shaped d = true) (sy : SeqAt.shaped e = true) : eqW x y s = .ok (.bl (PyData.eqv d e)) s := by
  simp only [eqW, datS_cl cx, datS_cl cy, hx, hy, sx, sy, and_self, if_true]
theorem ne_not {x y : W} {d e : PyData} {s : Sto} (hx : datW x = some d) (hy : datW y = some e) (cx : Cl x) (cy : Cl y) (sx : SeqAt.shaped d = true) (sy : SeqAt.shaped e = true) : neW x y s = .ok (.bl (!PyData.eqv d e)) s := by
  simp only [neW, datS_cl cx, datS_cl cy, hx, hy, sx, sy, and_self, if_true]
end
end ML

/-! ML15: a sum of lists with a place; lists of the def's own -/
namespace ML
open PySem L2
noncomputable section
def addLW (x y : W) (s : Sto) : R W := match lstOf s x, lstOf s y with
  | some xs, some ys => if ck (xs.length + ys.length ≤ 10000000) = true then .ok (.loc s.length) (s ++ [.lst (xs ++ ys)]) else .no
  | _, _ => .no
theorem om_addL {C : MC} {E : XK} : OpM C E (rAddU C.K) addLW := by
  intro H ρ st v u x y Q S rx ry p
  unfold addLW at p
  split at p
  · rename_i xs ys e1 e2
    obtain ⟨a, vs, rfl, h1, r1⟩ := lstOf_rep S rx e1
    obtain ⟨b, us, rfl, h2, r2⟩ := lstOf_rep S ry e2
    split at p
    · rename_i h
      refine .inr (.inr ⟨_, _, _, _, rfl, rfl, h1, h2, by rw [r1.length, r2.length]; exact szL (ck_iff.mp h), fun q hq => ?_⟩)
      exact p _ (ρ.add q) _ (Evo.push hq) (lst_push S hq (r1.append r2)) (loc_new S)
    · exact p.elim
  · exact p.elim
theorem seqOf_fl (s : Sto) (ws : List W) : seqOf s (.fl ws) = some ws := rfl
theorem seqOf_kl (s : Sto) (ws : List W) : seqOf s (.kl ws) = some ws := rfl
theorem seqOf_tup (s : Sto) (ws : List W) : seqOf s (.tup ws) = some ws := rfl
theorem lstOf_fl (s : Sto) (ws : List W) : lstOf s (.fl ws) = some ws := rfl
theorem lstK_fl (s : Sto) (ws : List W) : lstK s (.fl ws) = some ws := rfl
theorem lstK_kl (s : Sto) (ws : List W) : lstK s (.kl ws) = some ws := rfl
theorem mx2 (i j : Int) (s : Sto) : maxF [.int i, .int j] s = .ok (.int (max i j)) s := rfl
theorem mn2 (i j : Int) (s : Sto) : minF [.int i, .int j] s = .ok (.int (min i j)) s := rfl
theorem listLF_fl (s : Sto) (ws : List W) : listLF [.fl ws] s = .ok (.loc s.length) (s ++ [.lst ws]) := rfl
theorem listF_fl (s : Sto) (ws : List W) : listF [.fl ws] s = .ok (.fl ws) s := rfl
theorem listF_tup (s : Sto) (ws : List W) : listF [.tup ws] s = .ok (.fl ws) s := rfl
theorem listLF_tup (s : Sto) (ws : List W) : listLF [.tup ws] s = .ok (.loc s.length) (s ++ [.lst ws]) := rfl
theorem tupF_lst {s : Sto} {x : W} {ws : List W} (h : seqOf s x = some ws) : tupF [x] s = .ok (.tup ws) s := by simp [tupF, h]
theorem lenF_lst {s : Sto} {x : W} {ws : List W} (h : seqOf s x = some ws) : lenF [x] s = .ok (.int ws.length) s := by simp [lenF, h]
theorem ixW_lst {s : Sto} {x y : W} {ws : List W} {i : Int} (h : seqOf s x = some ws) (h2 : atI ws i = some y) : ixW x (.int i) s = .ok y s := by simp [ixW, h, h2]
theorem lstOf_top (s : Sto) (ws : List W) : lstOf (s ++ [.lst ws]) (.loc s.length) = some ws := by simp [lstOf]
theorem seqOf_top (s : Sto) (ws : List W) : seqOf (s ++ [.lst ws]) (.loc s.length) = some ws := by simp [seqOf, lstOf]
theorem setI_top (s : Sto) (ws : List W) {k : Int} {j : Nat} (h : ixN ws.length k = some j) (w : W) : setI (.loc s.length) (.int k) w (s ++ [.lst ws]) = .ok () (s ++ [.lst (ws.set j w)]) := by simp [setI, h]
theorem fdiv_ok {i j : Int} {s : Sto} (h1 : 0 < j) (h2 : j < 1073741824) : fdivW (.int i) (.int j) s = .ok (.int (i / j)) s := by
  simp [intW, h1, h2]
theorem mod_ok {i j : Int} {s : Sto} (h1 : 0 < j) : modW (.int i) (.int j) s = .ok (.int (i % j)) s := by
  simp [intW, h1]
theorem mul_okl {i j : Int} {s : Sto} (h1 : -18446744073709551616 < i) (h2 : i < 18446744073709551616) : mulW (.int i) (.int j) s = .ok (.int (i * j)) s := by
  have : mulOk i j = true := by unfold mulOk; rw [ck_iff]; left; omega
  simp [mulW, this]
theorem add_int (i j : Int) (s : Sto) : addW (.int i) (.int j) s = .ok (.int (i + j)) s := rfl
theorem neg_int (i : Int) (s : Sto) : negW (.int i) s = .ok (.int (-i)) s := rfl
theorem int_bl (b : Bool) (s : Sto) : intF [.bl b] s = .ok (.int (if b then 1 else 0)) s := rfl
theorem int_int (i : Int) (s : Sto) : intF [.int i] s = .ok (.int i) s := rfl
theorem sq_nx {a b : Sx} {env e : En} {st s : Sto} (h : a env st = .nx e s) : sqS a b env st = b e s := by unfold sqS; rw [h]; rfl
theorem sq_rt {a b : Sx} {env : En} {st s : Sto} {w : W} (h : a env st = .rt w s) : sqS a b env st = .rt w s := by unfold sqS; rw [h]; rfl
theorem body_of {N : Nat} {m : Sx} {ws : List W} {st s : Sto} {w : W} (h : m (pad N ws) st = .rt w s) : bodyD N m ws st = .ok w s := by unfold bodyD; rw [h]; rfl
/-- x is a list at a place behind st -/
def Own (st s : Sto) (x : W) (ws : List W) : Prop := ∃ s2 l, s = st ++ s2 ∧ x = .loc l ∧ st.length ≤ l ∧ s[l]? = some (.lst ws)
section
variable {st s : Sto} {x : W} {ws : List W}
theorem Own.ext (h : Own st s x ws) : ∃ s2, s = st ++ s2 := let ⟨s2, _, e, _⟩ := h; ⟨s2, e⟩
theorem Own.lst (h : Own st s x ws) : lstOf s x = some ws := by
  obtain ⟨s2, l, rfl, rfl, hl, e⟩ := h
  simp only [lstOf, e]
theorem Own.seq (h : Own st s x ws) : seqOf s x = some ws := by
  obtain ⟨s2, l, rfl, rfl, hl, e⟩ := h
  simp only [seqOf, lstOf, e]
theorem Own.lk (h : Own st s x ws) : lstK s x = some ws := by
  obtain ⟨s2, l, rfl, rfl, hl, e⟩ := h
  simp only [lstK, lstOf, e]
theorem Own.new (s2 : Sto) (ws : List W) : Own st (st ++ s2 ++ [.lst ws]) (.loc (st ++ s2).length) ws :=
  ⟨s2 ++ [.lst ws], _, by simp, rfl, by simp, by simp⟩
theorem Own.new' (h : ∃ s2, s = st ++ s2) (ws : List W) : Own st (s ++ [.lst ws]) (.loc s.length) ws := by
  obtain ⟨s2, rfl⟩ := h
  exact Own.new s2 ws
/-- something is laid behind -/
theorem Own.more (h : Own st s x ws) (o : O) : Own st (s ++ [o]) x ws := by
  obtain ⟨s2, l, rfl, rfl, hl, e⟩ := h
  exact ⟨s2 ++ [o], l, by simp, rfl, hl, by rw [List.getElem?_append_left (List.getElem?_eq_some_iff.mp e).1]; exact e⟩
theorem Own.put (h : Own st s x ws) (us : List W) : ∃ l, x = .loc l ∧ s[l]? = some (.lst ws) ∧ Own st (s.set l (.lst us)) x us := by
  obtain ⟨s2, l, rfl, rfl, hl, e⟩ := h
  have hlt := (List.getElem?_eq_some_iff.mp e).1
  exact ⟨l, rfl, e, s2.set (l - st.length) (.lst us), l, by rw [List.set_append_right _ _ hl], rfl, hl, by rw [List.getElem?_set_self hlt]⟩
theorem Own.app (h : Own st s x ws) (hl : ws.length < 10000000) (w : W) : ∃ s', appF x [w] s = .ok .non s' ∧ Own st s' x (ws ++ [w]) := by
  obtain ⟨l, rfl, e, o⟩ := h.put (ws ++ [w])
  exact ⟨_, by simp only [appF, e]; rw [if_pos (ck_iff.mpr hl)], o⟩
theorem Own.lmApp (h : Own st s x ws) {f : W → List W → Sto → R W} {o : Ex} {m : Ax} {env : En} (ho : o env s = .ok x s) : lmE f o m env s = (m env s).bind fun ws s2 => f x ws s2 := by
  unfold lmE
  rw [ho, R.bind_ok, h.lk]
theorem Own.setI (h : Own st s x ws) {k : Nat} (hk : k < ws.length) (w : W) : ∃ s', setI x (.int (k : Int)) w s = .ok () s' ∧ Own st s' x (ws.set k w) := by
  obtain ⟨l, rfl, e, o⟩ := h.put (ws.set k w)
  exact ⟨_, by simp only [ML.setI, e, ixN_lt hk], o⟩
theorem Own.add (h : Own st s x ws) {y : W} {ys : List W} (hy : lstOf s y = some ys) (hl : ws.length + ys.length ≤ 10000000) : ∃ s' x', addLW x y s = .ok x' s' ∧ Own st s' x' (ws ++ ys) := by
  refine ⟨s ++ [.lst (ws ++ ys)], .loc s.length, ?_, Own.new' h.ext _⟩
  unfold addLW
  rw [h.lst, hy]
  simp only
  rw [if_pos (ck_iff.mpr hl)]
theorem Own.fzs (h : Own st s x ws) (c : ∀ w ∈ ws, Cl w) : Fzs st.length s x (.fl ws) := by
  obtain ⟨s2, l, rfl, rfl, hl, e⟩ := h
  exact Fzs.locC hl e c
end
end
end ML

/-! LA1: layouts, plain -/
namespace LA
open PySem L2 ML
noncomputable section
inductive Lay where
  | pane (p : Int)
  | node (b : Bool) (ps : List (Lay × Int))
theorem Lay.mem_lt {b : Bool} {ps : List (Lay × Int)} {x : Lay × Int} (h : x ∈ ps) : sizeOf x.1 < sizeOf (Lay.node b ps) := by
  have := List.sizeOf_lt_of_mem h
  obtain ⟨l, s⟩ := x
  simp at this ⊢; omega
theorem Lay.ind {P : Lay → Prop} (h1 : ∀ p, P (.pane p)) (h2 : ∀ b ps, (∀ x ∈ ps, P x.1) → P (.node b ps)) : ∀ L, P L
  | .pane p => h1 p
  | .node b ps => h2 b ps fun x hx => Lay.ind h1 h2 x.1
termination_by L => sizeOf L
decreasing_by exact Lay.mem_lt (by assumption)
instance : DecidableEq Lay := fun _ _ => Classical.propDecidable _
abbrev Part := Lay × Int
def wayS (b : Bool) : Str := if b then "below" else "beside"
def layW : Lay → W
  | .pane p => .int p
  | .node b ps => .tup [.str (wayS b), .tup (ps.map fun x => .tup [layW x.1, .int x.2])]
termination_by L => sizeOf L
decreasing_by exact Lay.mem_lt (by assumption)
def partW (x : Part) : W := .tup [layW x.1, .int x.2]
theorem layW_pane (p : Int) : layW (.pane p) = .int p := by rw [layW]
theorem layW_node (b : Bool) (ps : List Part) : layW (.node b ps) = .tup [.str (wayS b), .tup (ps.map partW)] := by rw [layW]; rfl
def layD : Lay → PyData
  | .pane p => .int p
  | .node b ps => .tuple [.str (wayS b), .tuple (ps.map fun x => .tuple [layD x.1, .int x.2])]
termination_by L => sizeOf L
decreasing_by exact Lay.mem_lt (by assumption)
def partD (x : Part) : PyData := .tuple [layD x.1, .int x.2]
theorem layD_pane (p : Int) : layD (.pane p) = .int p := by rw [layD]
theorem layD_node (b : Bool) (ps : List Part) : layD (.node b ps) = .tuple [.str (wayS b), .tuple (ps.map partD)] := by rw [layD]; rfl
theorem lay_cl : ∀ L : Lay, Cl (layW L) := Lay.ind (fun p => by rw [layW_pane]; exact .int p) fun b ps ih => by
  rw [layW_node]
  refine .tup fun w hw => ?_
  simp only [List.mem_cons, List.not_mem_nil, or_false] at hw
  rcases hw with rfl | rfl
  · exact .str _
  · refine .tup fun w hw => ?_
    obtain ⟨x, hx, rfl⟩ := List.mem_map.mp hw
    refine .tup fun w hw => ?_
    simp only [List.mem_cons, List.not_mem_nil, or_false] at hw
    rcases hw with rfl | rfl
    · exact ih x hx
    · exact .int _
theorem part_cl (x : Part) : Cl (partW x) := .tup fun w hw => by
  simp only [List.mem_cons, List.not_mem_nil, or_false] at hw
  rcases hw with rfl | rfl
  · exact lay_cl _
  · exact .int _
theorem wayS_inj : ∀ a b : Bool, (wayS a == wayS b) = (a == b) := by decide +kernel
theorem way_ok : ∀ b : Bool, PyData.strOk (wayS b) = true := by decide +kernel
theorem lay_dat : ∀ L : Lay, datW (layW L) = some (layD L) := Lay.ind (fun p => by rw [layW_pane, layD_pane]; rfl) fun b ps ih => by
  rw [layW_node, layD_node]
  have key : ∀ qs : List Part, (∀ x ∈ qs, datW (layW x.1) = some (layD x.1)) → datL (qs.map partW) = some (qs.map partD) := by
    intro qs
    induction qs with
    | nil => intro _; rfl
    | cons q qs h2 =>
      intro h
      have e : datW (partW q) = some (partD q) := by simp [partW, partD, datW, datL, h q (by simp)]
      simp only [List.map_cons, datL, e, h2 fun x hx => h x (by simp [hx])]
  simp only [datW, datL, key ps ih, Option.map_some]
theorem lay_lay : ∀ L : Lay, PyData.canLay0 (layD L) = true := Lay.ind (fun p => by rw [layD_pane]; simp [PyData.canLay0]) fun b ps ih => by
  rw [layD_node]
  have key : ∀ qs : List Part, (∀ x ∈ qs, PyData.canLay0 (layD x.1) = true) → PyData.canLayAll0 (qs.map partD) = true := by
    intro qs
    induction qs with
    | nil => intro _; simp [PyData.canLayAll0]
    | cons q qs h2 =>
      intro h
      simp [PyData.canLayAll0, partD, PyData.canLay0, h q (by simp), h2 fun x hx => h x (by simp [hx])]
  simp [PyData.canLay0, PyData.canLayAll0, key ps ih, way_ok]
theorem lay_eqv : ∀ L M : Lay, PyData.eqv (layD L) (layD M) = decide (L = M) := Lay.ind (fun p M => by
    rw [layD_pane]
    cases M with
    | pane q => rw [layD_pane]; simp only [PyData.eqv, Lay.pane.injEq]; rfl
    | node b ps => rw [layD_node]; simp [PyData.eqv]) fun b ps ih M => by
  rw [layD_node]
  cases M with
  | pane q => rw [layD_pane]; simp [PyData.eqv]
  | node c qs =>
    rw [layD_node]
    have key : ∀ ps qs : List Part, (∀ x ∈ ps, ∀ M, PyData.eqv (layD x.1) (layD M) = decide (x.1 = M)) → PyData.eqvAll (ps.map partD) (qs.map partD) = decide (ps = qs) := by
      intro ps
      induction ps with
      | nil => intro qs _; cases qs <;> simp [PyData.eqvAll]
      | cons p ps h2 =>
        intro qs h
        cases qs with
        | nil => simp [PyData.eqvAll]
        | cons q qs =>
          obtain ⟨L, s⟩ := p
          obtain ⟨M, t⟩ := q
          have e := h (L, s) (by simp) M
          simp only [List.map_cons, PyData.eqvAll, partD, PyData.eqv, e, h2 qs fun x hx => h x (by simp [hx])]
          by_cases e1 : L = M <;> by_cases e2 : s = t <;> by_cases e3 : ps = qs <;> simp [e1, e2, e3]
    simp only [PyData.eqv, PyData.eqvAll, key ps qs ih, wayS_inj]
    by_cases e1 : b = c <;> by_cases e2 : ps = qs <;> simp [e1, e2]
theorem lay_inj {L M : Lay} (h : layW L = layW M) : L = M := by
  have h1 := lay_dat L
  rw [h, lay_dat M] at h1
  have h2 := lay_eqv L M
  rw [← Option.some.inj h1, lay_eqv M M] at h2
  simpa using h2.symm
def Lay.dep : Lay → Nat
  | .pane _ => 1
  | .node _ ps => (ps.map (fun x => x.1.dep)).foldr max 0 + 1
termination_by L => sizeOf L
decreasing_by exact Lay.mem_lt (by assumption)
theorem dep_pane (p : Int) : (Lay.pane p).dep = 1 := by rw [Lay.dep]
theorem dep_node (b : Bool) (ps : List Part) : (Lay.node b ps).dep = (ps.map (fun x => x.1.dep)).foldr max 0 + 1 := by rw [Lay.dep]
theorem le_foldr {ns : List Nat} {n : Nat} (h : n ∈ ns) : n ≤ ns.foldr max 0 := by
  induction ns with
  | nil => cases h
  | cons m ms ih =>
    simp only [List.foldr_cons]
    rcases List.mem_cons.mp h with e | h
    · omega
    · have := ih h; omega
theorem foldr_le {ns : List Nat} {k : Nat} (h : ∀ n ∈ ns, n ≤ k) : ns.foldr max 0 ≤ k := by
  induction ns with
  | nil => exact Nat.zero_le _
  | cons m ms ih =>
    simp only [List.foldr_cons]
    have := h m (by simp)
    have := ih fun n hn => h n (by simp [hn])
    omega
theorem dep_mem {b : Bool} {ps : List Part} {x : Part} (h : x ∈ ps) : x.1.dep + 1 ≤ (Lay.node b ps).dep := by
  rw [dep_node]
  have := le_foldr (List.mem_map.mpr ⟨x, h, rfl⟩ : x.1.dep ∈ ps.map fun x => x.1.dep)
  omega
theorem dep_le {b : Bool} {ps : List Part} {k : Nat} (h : ∀ x ∈ ps, x.1.dep ≤ k) : (Lay.node b ps).dep ≤ k + 1 := by
  rw [dep_node]
  have := foldr_le (ns := ps.map fun x => x.1.dep) (k := k) fun n hn => by obtain ⟨x, hx, rfl⟩ := List.mem_map.mp hn; exact h x hx
  omega
theorem dep_pos (L : Lay) : 1 ≤ L.dep := by
  cases L with
  | pane p => rw [dep_pane]; exact Nat.le_refl _
  | node b ps => rw [dep_node]; omega
theorem lay_depth : ∀ L : Lay, (layD L).depth ≤ 3 * L.dep := Lay.ind (fun p => by rw [layD_pane]; simp [PyData.depth]) fun b ps ih => by
  rw [layD_node]
  have key : ∀ (qs : List Part) (k : Nat), (∀ x ∈ qs, (layD x.1).depth ≤ k) → PyData.depthAll (qs.map partD) ≤ k + 1 := by
    intro qs k
    induction qs with
    | nil => intro _; simp [PyData.depthAll]
    | cons q qs h2 =>
      intro h
      have h1 := h q (by simp)
      have h3 := h2 fun x hx => h x (by simp [hx])
      simp only [List.map_cons, PyData.depthAll, partD, PyData.depth]
      omega
  have h := key ps (3 * ((Lay.node b ps).dep - 1)) fun x hx => by
    have := ih x hx
    have := dep_mem (b := b) hx
    omega
  simp only [PyData.depth, PyData.depthAll]
  have := dep_pos (.node b ps)
  omega
theorem lay_shaped {L : Lay} (h : L.dep ≤ 21) : SeqAt.shaped (layD L) = true := by
  unfold SeqAt.shaped
  rw [Bool.and_eq_true]
  have := lay_depth L
  exact ⟨lay_lay L, decide_eq_true (by omega)⟩
theorem eq_lay {L M : Lay} (h : L.dep ≤ 21) (k : M.dep ≤ 21) (s : Sto) : eqW (layW L) (layW M) s = .ok (.bl (decide (L = M))) s := by
  rw [eq_not (lay_dat L) (lay_dat M) (lay_cl _) (lay_cl _) (lay_shaped h) (lay_shaped k), lay_eqv]
theorem ne_lay {L M : Lay} (h : L.dep ≤ 21) (k : M.dep ≤ 21) (s : Sto) : neW (layW L) (layW M) s = .ok (.bl (!decide (L = M))) s := by
  rw [ne_not (lay_dat L) (lay_dat M) (lay_cl _) (lay_cl _) (lay_shaped h) (lay_shaped k), lay_eqv]
theorem eq_layI {L : Lay} (h : L.dep ≤ 21) (p : Int) (s : Sto) : eqW (layW L) (.int p) s = .ok (.bl (decide (L = .pane p))) s := by
  rw [← layW_pane, eq_lay h (by rw [dep_pane]; omega)]
theorem eq_way (a b : Bool) (s : Sto) : eqW (.str (wayS a)) (.str (wayS b)) s = .ok (.bl (a == b)) s := by
  rw [eq_str _ _ _ (way_ok _) (way_ok _), wayS_inj]
theorem eq_below (a : Bool) (s : Sto) : eqW (.str (wayS a)) (.str "below") s = .ok (.bl a) s := by
  rw [show ("below" : Str) = wayS true from rfl, eq_way]; cases a <;> rfl
theorem eq_beside (a : Bool) (s : Sto) : eqW (.str (wayS a)) (.str "beside") s = .ok (.bl (!a)) s := by
  rw [show ("beside" : Str) = wayS false from rfl, eq_way]; cases a <;> rfl
theorem lay_ty (s : Sto) (L : Lay) : tyOf s (layW L) = some (match L with | .pane _ => .int | .node _ _ => .tup) := by
  cases L with
  | pane p => rw [layW_pane]; rfl
  | node b ps => rw [layW_node]; rfl

/-! ### what is computed -/
def Lay.panes : Lay → List Int
  | .pane p => [p]
  | .node _ ps => ps.flatMap fun x => x.1.panes
termination_by L => sizeOf L
decreasing_by exact Lay.mem_lt (by assumption)
theorem panes_pane (p : Int) : (Lay.pane p).panes = [p] := by rw [Lay.panes]
theorem panes_node (b : Bool) (ps : List Part) : (Lay.node b ps).panes = ps.flatMap fun x => x.1.panes := by rw [Lay.panes]
def lowOf (b : Bool) (ms : List (Int × Int)) : Int × Int :=
  if b then (maxL (ms.map (·.1)), (ms.map (·.2)).sum + ((ms.length : Int) - 1)) else ((ms.map (·.1)).sum + ((ms.length : Int) - 1), maxL (ms.map (·.2)))
def Lay.low : Lay → Int × Int
  | .pane _ => (2, 1)
  | .node b ps => lowOf b (ps.map fun x => x.1.low)
termination_by L => sizeOf L
decreasing_by exact Lay.mem_lt (by assumption)
theorem low_pane (p : Int) : (Lay.pane p).low = (2, 1) := by rw [Lay.low]
theorem low_node (b : Bool) (ps : List Part) : (Lay.node b ps).low = lowOf b (ps.map fun x => x.1.low) := by rw [Lay.low]
def ax (b : Bool) (m : Int × Int) : Int := if b then m.2 else m.1
/-- sharing -/
def spareOf (total : Int) (low : List Int) : Int := max 0 (total - ((low.length : Int) - 1) - low.sum)
def extras0 (low old : List Int) : List Int := (old.zip low).map fun p => max 0 (p.1 - p.2)
def extrasOf (low old : List Int) : List Int := if (extras0 low old).sum = 0 then List.replicate old.length 1 else extras0 low old
def newsOf (sp w : Int) (low es : List Int) : List Int := (low.zip es).map fun p => p.1 + sp * p.2 / w
def give : List Int → List Int → Int → List Int
  | e :: es, x :: xs, r => if 0 < e ∧ 0 < r then (x + 1) :: give es xs (r - 1) else x :: give es xs r
  | _, xs, _ => xs
def share (total : Int) (low old : List Int) : List Int :=
  let es := extrasOf low old
  let ns := newsOf (spareOf total low) es.sum low es
  give es ns (spareOf total low - (ns.sum - low.sum))
/-- fitting -/
def Lay.fit : Lay → Int → Int → Lay
  | .pane p, _, _ => .pane p
  | .node b ps, w, h =>
    let m := (Lay.node b ps).low
    let ss := share (if b then max h m.2 else max w m.1) (ps.map fun x => ax b x.1.low) (ps.map (·.2))
    .node b ((ps.attach.zip ss).map fun y => (y.1.1.1.fit (if b then max w m.1 else y.2) (if b then y.2 else max h m.2), y.2))
termination_by L => sizeOf L
decreasing_by exact Lay.mem_lt y.1.2
def sizesOf (b : Bool) (ps : List Part) (w h : Int) : List Int :=
  share (if b then max h (Lay.node b ps).low.2 else max w (Lay.node b ps).low.1) (ps.map fun x => ax b x.1.low) (ps.map (·.2))
theorem fit_pane (p w h : Int) : (Lay.pane p).fit w h = .pane p := by rw [Lay.fit]
theorem fit_node (b : Bool) (ps : List Part) (w h : Int) : (Lay.node b ps).fit w h =
    .node b ((ps.zip (sizesOf b ps w h)).map fun y => (y.1.1.fit (if b then max w (Lay.node b ps).low.1 else y.2) (if b then y.2 else max h (Lay.node b ps).low.2), y.2)) := by
  rw [Lay.fit]
  have key : ∀ (ss : List Int) (f : Part → Int → Part), (ps.attach.zip ss).map (fun y => f y.1.1 y.2) = (ps.zip ss).map fun y => f y.1 y.2 := by
    intro ss f
    conv => rhs; rw [← List.attach_map_subtype_val ps, List.zip_map_left, List.map_map]
    rfl
  exact congrArg (Lay.node b) (key (sizesOf b ps w h) fun x s => (x.1.fit (if b then max w (Lay.node b ps).low.1 else s) (if b then s else max h (Lay.node b ps).low.2), s))
/-- boxes -/
abbrev Box := Int × Int × Int × Int × Int
def offs (o : Int) : List Part → List Int
  | [] => []
  | x :: xs => o :: offs (o + x.2 + 1) xs
def Lay.boxes : Lay → Int → Int → Int → Int → List Box
  | .pane p, r, c, w, h => [(p, r, c, w, h)]
  | .node b ps, r, c, w, h => ((ps.attach.zip (offs (if b then r else c) ps)).map fun y => if b then y.1.1.1.boxes y.2 c w y.1.1.2 else y.1.1.1.boxes r y.2 y.1.1.2 h).flatten
termination_by L => sizeOf L
decreasing_by all_goals exact Lay.mem_lt y.1.2
theorem boxes_pane (p r c w h : Int) : (Lay.pane p).boxes r c w h = [(p, r, c, w, h)] := by rw [Lay.boxes]
def boxesL (b : Bool) (c w h : Int) : Int → List Part → List Box
  | _, [] => []
  | o, x :: xs => (if b then x.1.boxes o c w x.2 else x.1.boxes c o x.2 h) ++ boxesL b c w h (o + x.2 + 1) xs
theorem boxes_node (b : Bool) (ps : List Part) (r c w h : Int) : (Lay.node b ps).boxes r c w h = boxesL b (if b then c else r) w h (if b then r else c) ps := by
  rw [Lay.boxes]
  have key : ∀ (ss : List Int) (f : Part → Int → List Box), (ps.attach.zip ss).map (fun y => f y.1.1 y.2) = (ps.zip ss).map fun y => f y.1 y.2 := by
    intro ss f
    conv => rhs; rw [← List.attach_map_subtype_val ps, List.zip_map_left, List.map_map]
    rfl
  have k2 := key (offs (if b then r else c) ps) fun x s => if b then x.1.boxes s c w x.2 else x.1.boxes r s x.2 h
  rw [k2]
  clear key k2
  generalize (if b then r else c) = o
  induction ps generalizing o with
  | nil => rfl
  | cons x xs ih =>
    simp only [offs, List.zip_cons_cons, List.map_cons, List.flatten_cons, boxesL, ih]
    cases b <;> rfl
def Lay.allBoxes (L : Lay) (w h : Int) : List Box := (L.fit w h).boxes 0 0 (max w L.low.1) (max h L.low.2)
def roomIn (q : Int) (b : Bool) : List Box → Int
  | [] => 0
  | x :: xs => if x.1 = q then (if b then x.2.2.2.2 else x.2.2.2.1) else roomIn q b xs
def Lay.room (L : Lay) (w h q : Int) (b : Bool) : Int := roomIn q b (L.allBoxes w h)
/-- splitting -/
def pairOf (q new size : Int) : List Part := [(.pane q, size - 1 - (size - 1) / 2), (.pane new, (size - 1) / 2)]
def Lay.split (q : Int) (way : Bool) (new size : Int) : Lay → Lay
  | .pane p => if p = q then .node way (pairOf q new size) else .pane p
  | .node b ps => .node b (ps.flatMap fun x => if x.1 = .pane q ∧ b = way then pairOf q new size else [(x.1.split q way new size, x.2)])
termination_by L => sizeOf L
decreasing_by exact Lay.mem_lt (by assumption)
theorem split_pane (q : Int) (way : Bool) (new size p : Int) : (Lay.pane p).split q way new size = if p = q then .node way (pairOf q new size) else .pane p := by rw [Lay.split]
theorem split_node (q : Int) (way : Bool) (new size : Int) (b : Bool) (ps : List Part) : (Lay.node b ps).split q way new size =
    .node b (ps.flatMap fun x => if x.1 = .pane q ∧ b = way then pairOf q new size else [(x.1.split q way new size, x.2)]) := by rw [Lay.split]
def Lay.divided (L : Lay) (w h q : Int) (way : Bool) (new : Int) : Option Lay :=
  if L.room w h q way < (if way then 3 else 5) then none else some (((L.fit w h).split q way new (L.room w h q way)).fit w h)
/-- removing -/
def dropAt (ps : List Part) (i : Nat) : List Part := (ps.eraseIdx i).modify (i - 1) fun x => (x.1, x.2 + ((ps.getD i (.pane 0, 0)).2 + 1))
/-- the first part with a pane -/
def findP (q : Int) : List Part → Nat
  | [] => 0
  | x :: xs => if q ∈ x.1.panes then 0 else findP q xs + 1
theorem findP_mem {q : Int} : ∀ {ps : List Part}, findP q ps < ps.length → ∃ h : findP q ps < ps.length, q ∈ (ps[findP q ps]).1.panes
  | [], h => by cases h
  | x :: xs, h => by
    unfold findP at h ⊢
    by_cases hq : q ∈ x.1.panes
    · simp only [hq, if_true] at h ⊢; exact ⟨by simp, by simpa using hq⟩
    · simp only [hq, if_false] at h ⊢
      obtain ⟨h1, h2⟩ := findP_mem (ps := xs) (q := q) (by simpa using h)
      exact ⟨by simpa using h1, by simpa using h2⟩
def single (b : Bool) (ps : List Part) : Lay := match ps with
  | [x] => x.1
  | ps => .node b ps
def splice (b : Bool) (ps : List Part) (i : Nat) (rest : Lay) (s : Int) : Lay := match rest with
  | .node c qs => if c = b then .node b (ps.take i ++ qs ++ ps.drop (i + 1)) else .node b (ps.take i ++ [(rest, s)] ++ ps.drop (i + 1))
  | .pane _ => .node b (ps.take i ++ [(rest, s)] ++ ps.drop (i + 1))
def Lay.taken (q : Int) : Lay → Lay
  | .pane p => .pane p
  | .node b ps => if h : findP q ps < ps.length then
      (if (ps[findP q ps]).1 = .pane q then single b (dropAt ps (findP q ps)) else splice b ps (findP q ps) ((ps[findP q ps]).1.taken q) (ps[findP q ps]).2)
    else .node b ps
termination_by L => sizeOf L
decreasing_by exact Lay.mem_lt (List.getElem_mem _)
def Lay.without (L : Lay) (w h q : Int) : Lay := ((L.fit w h).taken q).fit w h
/-- moving a border -/
def shiftAt (ps : List Part) (i : Nat) (b : Bool) (amount : Int) : List Part := match ps.drop i with
  | x :: y :: r => 
    let a := max (ax b x.1.low - x.2) (min (y.2 - ax b y.1.low) amount)
    ps.take i ++ (x.1, x.2 + a) :: (y.1, y.2 - a) :: r
  | _ => ps
def Lay.shift (q : Int) (way : Bool) (amount : Int) : Lay → Option Lay
  | .pane _ => none
  | .node b ps => if h : findP q ps < ps.length then
      (match (ps[findP q ps]).1.shift q way amount with
        | some L => some (.node b (ps.set (findP q ps) (L, (ps[findP q ps]).2)))
        | none => if b = way ∧ findP q ps + 1 < ps.length then some (.node b (shiftAt ps (findP q ps) way amount)) else none)
    else none
termination_by L => sizeOf L
decreasing_by exact Lay.mem_lt (List.getElem_mem _)
def Lay.moved (L : Lay) (w h q : Int) (way : Bool) (amount : Int) : Lay := (((L.fit w h).shift q way amount).getD (L.fit w h)).fit w h
end
end LA

/-! LA2: good layouts -/
namespace LA
open PySem L2 ML
noncomputable section
inductive Ok (B : Int) : Lay → Prop
  | pane (p : Int) : Ok B (.pane p)
  | node {b : Bool} {ps : List Part} (two : 2 ≤ ps.length) (sz : ∀ x ∈ ps, 0 ≤ x.2 ∧ x.2 ≤ B) (alt : ∀ x ∈ ps, ∀ qs, x.1 ≠ .node b qs) (sub : ∀ x ∈ ps, Ok B x.1) : Ok B (.node b ps)
theorem Ok.mono {B C : Int} (h : B ≤ C) {L : Lay} (k : Ok B L) : Ok C L := by
  induction k with
  | pane p => exact .pane p
  | node two sz alt _ ih => exact .node two (fun x hx => ⟨(sz x hx).1, by have := (sz x hx).2; omega⟩) alt ih
theorem Ok.two {B : Int} {b : Bool} {ps : List Part} (h : Ok B (.node b ps)) : 2 ≤ ps.length := by cases h; assumption
theorem Ok.sz {B : Int} {b : Bool} {ps : List Part} (h : Ok B (.node b ps)) : ∀ x ∈ ps, 0 ≤ x.2 ∧ x.2 ≤ B := by cases h; assumption
theorem Ok.alt {B : Int} {b : Bool} {ps : List Part} (h : Ok B (.node b ps)) : ∀ x ∈ ps, ∀ qs, x.1 ≠ .node b qs := by cases h; assumption
theorem Ok.sub {B : Int} {b : Bool} {ps : List Part} (h : Ok B (.node b ps)) : ∀ x ∈ ps, Ok B x.1 := by cases h; assumption
theorem flat_len {α β : Type} {f : α → List β} {k : Nat} : ∀ {xs : List α}, (∀ x ∈ xs, k ≤ (f x).length) → k * xs.length ≤ (xs.flatMap f).length
  | [], _ => by simp
  | x :: xs, h => by
    have h1 := h x (by simp)
    have h2 := flat_len (xs := xs) fun y hy => h y (by simp [hy])
    simp only [List.flatMap_cons, List.length_append, List.length_cons, Nat.mul_add, Nat.mul_one]
    omega
theorem flat_mem_len {α β : Type} {f : α → List β} {x : α} : ∀ {xs : List α}, x ∈ xs → (f x).length ≤ (xs.flatMap f).length
  | [], h => by cases h
  | y :: ys, h => by
    simp only [List.flatMap_cons, List.length_append]
    rcases List.mem_cons.mp h with e | h
    · rw [e]; omega
    · have := flat_mem_len (f := f) h; omega
theorem panes_pos {B : Int} {L : Lay} (h : Ok B L) : 1 ≤ L.panes.length := by
  induction h with
  | pane p => rw [panes_pane]; exact Nat.le_refl _
  | @node b ps two sz alt sub ih =>
    rw [panes_node]
    have := flat_len (k := 1) (f := fun x : Part => x.1.panes) ih
    omega
structure Good (n : Nat) (L : Lay) : Prop where
  dp : L.dep ≤ n
  ok : Ok 1048576 L
  sm : L.panes.length ≤ 100
theorem Good.mem {n : Nat} {b : Bool} {ps : List Part} (h : Good (n + 1) (.node b ps)) {x : Part} (hx : x ∈ ps) : Good n x.1 := by
  refine ⟨by have := dep_mem (b := b) hx; have := h.dp; omega, h.ok.sub x hx, ?_⟩
  have := h.sm
  rw [panes_node] at this
  have := flat_mem_len (f := fun x : Part => x.1.panes) hx
  omega
theorem Good.len {n : Nat} {b : Bool} {ps : List Part} (h : Good n (.node b ps)) : ps.length ≤ 100 := by
  have h1 := h.sm
  rw [panes_node] at h1
  have := flat_len (k := 1) (f := fun x : Part => x.1.panes) fun x hx => panes_pos (h.ok.sub x hx)
  omega
theorem Good.mono {n m : Nat} {L : Lay} (h : Good n L) (le : n ≤ m) : Good m L := ⟨Nat.le_trans h.dp le, h.ok, h.sm⟩
theorem Good.zero {L : Lay} (h : Good 0 L) : False := by have := dep_pos L; have := h.dp; omega
def lowW (m : Int × Int) : W := .tup [.int m.1, .int m.2]
def lowL (m : Int × Int) : W := .fl [.int m.1, .int m.2]
theorem lowW_cl (m : Int × Int) : Cl (lowW m) := .tup fun w hw => by
  simp only [List.mem_cons, List.not_mem_nil, or_false] at hw
  rcases hw with rfl | rfl <;> exact .int _
theorem lowL_cl (m : Int × Int) : Cl (lowL m) := .fl fun w hw => by
  simp only [List.mem_cons, List.not_mem_nil, or_false] at hw
  rcases hw with rfl | rfl <;> exact .int _
theorem nil_or {α : Type} {xs : List α} (h : 2 ≤ xs.length) : 0 < xs.length := by omega
end
end LA

/-! LA3: sharing, fitting: bounds -/
namespace LA
open PySem L2 ML
noncomputable section
theorem sum_nn : ∀ {xs : List Int}, (∀ x ∈ xs, 0 ≤ x) → 0 ≤ xs.sum
  | [], _ => by simp
  | x :: xs, h => by
    have h1 := h x (by simp)
    have h2 := sum_nn (xs := xs) fun y hy => h y (by simp [hy])
    simp only [List.sum_cons]; omega
theorem sum_le {B : Int} : ∀ {xs : List Int}, (∀ x ∈ xs, x ≤ B) → xs.sum ≤ B * xs.length
  | [], _ => by simp
  | x :: xs, h => by
    have h1 := h x (by simp)
    have h2 := sum_le (xs := xs) fun y hy => h y (by simp [hy])
    simp only [List.sum_cons, List.length_cons, Int.natCast_add, Int.natCast_one, Int.mul_add, Int.mul_one]; omega
theorem sum_zero : ∀ {xs : List Int}, (∀ x ∈ xs, 0 ≤ x) → xs.sum = 0 → ∀ x ∈ xs, x = 0
  | [], _, _ => by simp
  | x :: xs, h, e => by
    have h1 := h x (by simp)
    have h2 := sum_nn (xs := xs) fun y hy => h y (by simp [hy])
    simp only [List.sum_cons] at e
    intro y hy
    rcases List.mem_cons.mp hy with r | hy
    · omega
    · exact sum_zero (xs := xs) (fun y hy => h y (by simp [hy])) (by omega) y hy
theorem sum_mem {xs : List Int} (h : ∀ x ∈ xs, 0 ≤ x) {x : Int} (hx : x ∈ xs) : x ≤ xs.sum := by
  induction xs with
  | nil => cases hx
  | cons y ys ih =>
    have h1 := h y (by simp)
    have h2 := sum_nn (xs := ys) fun y hy => h y (by simp [hy])
    simp only [List.sum_cons]
    rcases List.mem_cons.mp hx with r | hx
    · omega
    · have := ih (fun y hy => h y (by simp [hy])) hx; omega
theorem sum_rep (n : Nat) (x : Int) : (List.replicate n x).sum = x * n := by
  induction n with
  | zero => simp
  | succ n ih => rw [List.replicate_succ, List.sum_cons, ih]; simp [Int.mul_add]; omega
theorem extras0_len {low old : List Int} (h : low.length = old.length) : (extras0 low old).length = old.length := by
  unfold extras0; simp [h]
theorem extras0_mem {low old : List Int} (ho : ∀ x ∈ old, x ≤ 1048576) (hl : ∀ x ∈ low, 0 ≤ x) : ∀ x ∈ extras0 low old, 0 ≤ x ∧ x ≤ 1048576 := by
  intro x hx
  unfold extras0 at hx
  obtain ⟨⟨a, b⟩, hp, rfl⟩ := List.mem_map.mp hx
  have h1 := ho a (List.of_mem_zip hp).1
  have h2 := hl b (List.of_mem_zip hp).2
  show 0 ≤ max 0 (a - b) ∧ max 0 (a - b) ≤ 1048576
  omega
/-- what may be shared -/
structure Shr (low old : List Int) : Prop where
  ln : low.length = old.length
  l1 : 1 ≤ old.length
  l2 : old.length ≤ 100
  lo : ∀ x ∈ low, 0 ≤ x
  ol : ∀ x ∈ old, x ≤ 1048576
theorem Shr.elen {low old : List Int} (h : Shr low old) : (extrasOf low old).length = old.length := by
  unfold extrasOf
  split
  · simp
  · exact extras0_len h.ln
theorem Shr.emem {low old : List Int} (h : Shr low old) : ∀ x ∈ extrasOf low old, 0 ≤ x ∧ x ≤ 1048576 := by
  unfold extrasOf
  split
  · intro x hx; rw [(List.mem_replicate.mp hx).2]; omega
  · exact extras0_mem h.ol h.lo
theorem Shr.epos {low old : List Int} (h : Shr low old) : 0 < (extrasOf low old).sum := by
  have h1 := h.l1
  unfold extrasOf
  split
  · rw [sum_rep]; omega
  · rename_i q
    have := sum_nn (xs := extras0 low old) fun x hx => (extras0_mem h.ol h.lo x hx).1
    omega
theorem Shr.esum {low old : List Int} (h : Shr low old) : (extrasOf low old).sum < 1073741824 := by
  have h2 := sum_le (xs := extrasOf low old) fun x hx => (h.emem x hx).2
  have := h.l2
  rw [h.elen] at h2
  omega
theorem news_len {sp w : Int} {low es : List Int} : (newsOf sp w low es).length = min low.length es.length := by unfold newsOf; simp
theorem give_len : ∀ (es xs : List Int) (r : Int), (give es xs r).length = xs.length
  | [], xs, r => by unfold give; rfl
  | e :: es, [], r => by unfold give; rfl
  | e :: es, x :: xs, r => by
    unfold give
    split <;> simp [give_len es xs]
theorem Shr.len {low old : List Int} (h : Shr low old) (t : Int) : (share t low old).length = old.length := by
  unfold share
  rw [give_len, news_len, h.elen, h.ln]; omega
theorem max_extras {xs : List Int} (h : ∀ x ∈ xs, 0 ≤ x) (hp : 0 < xs.length) : (maxL xs = 0) = (xs.sum = 0) := by
  apply propext
  constructor
  · intro e
    have : ∀ x ∈ xs, x = 0 := fun x hx => by have := maxL_le hx; have := h x hx; omega
    have h2 := sum_le (xs := xs) (B := 0) fun x hx => by rw [this x hx]; exact Int.le_refl _
    have := sum_nn h
    omega
  · intro e
    exact sum_zero h e _ (maxL_mem hp)
theorem low_pos {B : Int} {L : Lay} (h : Ok B L) : 2 ≤ L.low.1 ∧ 1 ≤ L.low.2 := by
  induction h with
  | pane p => rw [low_pane]; exact ⟨by decide, by decide⟩
  | @node b ps two sz alt sub ih =>
    rw [low_node]
    have hs : ∀ (f : Int × Int → Int), (∀ x ∈ ps, 1 ≤ f x.1.low) → (ps.length : Int) ≤ ((ps.map fun x => x.1.low).map f).sum := by
      intro f hf
      rw [List.map_map]
      clear two sz alt sub ih
      induction ps with
      | nil => simp
      | cons x xs ih =>
        have h1 := hf x (by simp)
        have h2 := ih fun y hy => hf y (by simp [hy])
        simp only [List.map_cons, List.sum_cons, Function.comp, List.length_cons] at h2 ⊢
        omega
    have hm : ∀ (f : Int × Int → Int) (k : Int), (∀ x ∈ ps, k ≤ f x.1.low) → k ≤ maxL ((ps.map fun x => x.1.low).map f) := by
      intro f k hf
      have := maxL_mem (ns := (ps.map fun x => x.1.low).map f) (by simp; omega)
      obtain ⟨y, hy, e⟩ := List.mem_map.mp this
      obtain ⟨x, hx, e2⟩ := List.mem_map.mp hy
      rw [← e, ← e2]; exact hf x hx
    have s1 := hs (·.1) fun x hx => by have := (ih x hx).1; omega
    have s2 := hs (·.2) fun x hx => (ih x hx).2
    have m1 := hm (·.1) 2 fun x hx => (ih x hx).1
    have m2 := hm (·.2) 1 fun x hx => (ih x hx).2
    unfold lowOf
    cases b
    · simp only [Bool.false_eq_true, if_false, List.length_map]; exact ⟨by omega, m2⟩
    · simp only [if_true, List.length_map]; exact ⟨m1, by omega⟩
theorem low_nn {B : Int} {L : Lay} (h : Ok B L) (b : Bool) : 0 ≤ ax b L.low := by
  have := low_pos h
  unfold ax
  split <;> omega
theorem boxesL_panes {b : Bool} {c w h : Int} : ∀ (ps : List Part) (o : Int), (∀ x ∈ ps, ∀ r c w h, (x.1.boxes r c w h).map (·.1) = x.1.panes) → (boxesL b c w h o ps).map (·.1) = ps.flatMap fun x => x.1.panes
  | [], _, _ => rfl
  | x :: xs, o, ih => by
    have h2 := boxesL_panes (b := b) (c := c) (w := w) (h := h) xs (o + x.2 + 1) fun y hy => ih y (by simp [hy])
    unfold boxesL
    rw [List.map_append, h2, List.flatMap_cons]
    congr 1
    cases b
    · exact ih x (by simp) ..
    · exact ih x (by simp) ..
theorem boxes_panes : ∀ (L : Lay) (r c w h : Int), (L.boxes r c w h).map (·.1) = L.panes :=
  Lay.ind (fun p r c w h => by rw [boxes_pane, panes_pane]; rfl) fun b ps ih r c w h => by
    rw [boxes_node, panes_node, boxesL_panes ps _ ih]
theorem boxes_len (L : Lay) (r c w h : Int) : (L.boxes r c w h).length = L.panes.length := by
  rw [← boxes_panes L r c w h, List.length_map]
theorem boxesL_len {b : Bool} {c w h o : Int} (ps : List Part) : (boxesL b c w h o ps).length = (ps.flatMap fun x => x.1.panes).length := by
  rw [← boxesL_panes (b := b) (c := c) (w := w) (h := h) ps o fun x _ => boxes_panes x.1, List.length_map]
def intsW (ns : List Int) : W := .fl (ns.map W.int)
theorem intsW_cl (ns : List Int) : Cl (intsW ns) := .fl (Cl.map .int)
theorem intsW_inj {a b : List Int} (h : intsW a = intsW b) : a = b := by
  unfold intsW at h
  injection h with h
  have := congrArg intsOf h
  rw [intsOf_map, intsOf_map] at this
  exact Option.some.inj this
end
end LA

/-! LA4: sharing gives the total; fitted layouts; what steps keep -/
namespace LA
open PySem L2 ML
noncomputable section
/-! ### sharing -/
def posN : List Int → Int
  | [] => 0
  | e :: es => (if 0 < e then 1 else 0) + posN es
def flo (sp w : Int) : List Int → Int
  | [] => 0
  | e :: es => sp * e / w + flo sp w es
theorem posN_nn : ∀ es : List Int, 0 ≤ posN es
  | [] => Int.le_refl _
  | e :: es => by have := posN_nn es; unfold posN; split <;> omega
theorem give_sum : ∀ (es xs : List Int) (r : Int), es.length = xs.length → 0 ≤ r → r ≤ posN es → (give es xs r).sum = xs.sum + r
  | [], [], r, _, h0, h1 => by unfold posN at h1; unfold give; have : r = 0 := by omega
                               simp [this]
  | [], _ :: _, _, h, _, _ => by cases h
  | _ :: _, [], _, h, _, _ => by cases h
  | e :: es, x :: xs, r, hl, h0, h1 => by
    unfold posN at h1
    unfold give
    have hl : es.length = xs.length := by simpa using hl
    by_cases h : 0 < e ∧ 0 < r
    · rw [if_pos h, List.sum_cons, give_sum es xs (r - 1) hl (by omega) (by rw [if_pos h.1] at h1; omega), List.sum_cons]; omega
    · have hr : r ≤ posN es := by
        have := posN_nn es
        by_cases he : 0 < e
        · omega
        · rw [if_neg he] at h1; omega
      rw [if_neg h, List.sum_cons, give_sum es xs r hl h0 hr, List.sum_cons]; omega
theorem give_ge : ∀ (es xs : List Int) (r : Int) (i : Nat), xs.getD i 0 ≤ (give es xs r).getD i 0
  | [], xs, r, i => by unfold give; exact Int.le_refl _
  | _ :: _, [], r, i => by unfold give; exact Int.le_refl _
  | e :: es, x :: xs, r, i => by
    unfold give
    split
    · cases i with
      | zero => simp; omega
      | succ i => simpa using give_ge es xs (r - 1) i
    · cases i with
      | zero => simp
      | succ i => simpa using give_ge es xs r i
theorem flo_bounds {sp w : Int} (hs : 0 ≤ sp) (hw : 0 < w) : ∀ es : List Int, (∀ e ∈ es, 0 ≤ e) → w * flo sp w es ≤ sp * es.sum ∧ sp * es.sum ≤ w * flo sp w es + (w - 1) * posN es ∧ 0 ≤ flo sp w es
  | [], _ => by simp [flo, posN]
  | e :: es, h => by
    obtain ⟨h1, h2, h3⟩ := flo_bounds hs hw es fun x hx => h x (by simp [hx])
    have he := h e (by simp)
    have d1 := Int.mul_ediv_add_emod (sp * e) w
    have d2 := Int.emod_nonneg (sp * e) (show w ≠ 0 by omega)
    have d3 := Int.emod_lt_of_pos (sp * e) hw
    have d4 : 0 ≤ sp * e / w := Int.ediv_nonneg (Int.mul_nonneg hs he) (by omega)
    simp only [flo, posN, List.sum_cons, Int.mul_add]
    by_cases hp : 0 < e
    · rw [if_pos hp]
      refine ⟨by omega, ?_, by omega⟩
      rw [show (w - 1) * 1 = w - 1 by omega]
      omega
    · have e0 : e = 0 := by omega
      subst e0
      simp only [Int.mul_zero, Int.zero_ediv, Int.zero_add, if_neg hp] at *
      exact ⟨h1, h2, h3⟩
theorem newsOf_sum {sp w : Int} : ∀ low es : List Int, low.length = es.length → (newsOf sp w low es).sum = low.sum + flo sp w es
  | [], [], _ => by simp [newsOf, flo]
  | [], _ :: _, h => by cases h
  | _ :: _, [], h => by cases h
  | l :: low, e :: es, h => by
    have ih := newsOf_sum (sp := sp) (w := w) low es (by simpa using h)
    simp only [newsOf] at ih
    simp only [newsOf, flo, List.zip_cons_cons, List.map_cons, List.sum_cons, ih]
    omega
theorem newsOf_get {sp w : Int} (hs : 0 ≤ sp) (hw : 0 < w) : ∀ (low es : List Int) (i : Nat), low.length = es.length → (∀ e ∈ es, 0 ≤ e) → low.getD i 0 ≤ (newsOf sp w low es).getD i 0
  | [], [], _, _, _ => by simp [newsOf]
  | [], _ :: _, _, h, _ => by cases h
  | _ :: _, [], _, h, _ => by cases h
  | l :: low, e :: es, i, h, he => by
    cases i with
    | zero =>
      have : 0 ≤ sp * e / w := Int.ediv_nonneg (Int.mul_nonneg hs (he e (by simp))) (by omega)
      simp [newsOf]; omega
    | succ i =>
      have := newsOf_get hs hw low es i (by simpa using h) fun x hx => he x (by simp [hx])
      simpa [newsOf] using this
theorem spare_nn (t : Int) (low : List Int) : 0 ≤ spareOf t low := by unfold spareOf; omega
theorem Shr.rest {low old : List Int} (h : Shr low old) (t : Int) : 0 ≤ spareOf t low - flo (spareOf t low) (extrasOf low old).sum (extrasOf low old) ∧ spareOf t low - flo (spareOf t low) (extrasOf low old).sum (extrasOf low old) ≤ posN (extrasOf low old) := by
  have hp := h.epos
  have hs := spare_nn t low
  obtain ⟨b1, b2, b3⟩ := flo_bounds hs hp (extrasOf low old) fun e he => (h.emem e he).1
  generalize (extrasOf low old).sum = w at *
  generalize flo (spareOf t low) w (extrasOf low old) = f at *
  generalize spareOf t low = sp at *
  have hc := posN_nn (extrasOf low old)
  generalize posN (extrasOf low old) = c at *
  constructor
  · have : w * f ≤ w * sp := by rw [Int.mul_comm w sp]; exact b1
    have := Int.le_of_mul_le_mul_left this hp
    omega
  · have e : (w - 1) * c = w * c - c := by rw [Int.sub_mul]; omega
    have : w * sp ≤ w * (f + c) := by rw [Int.mul_add, Int.mul_comm w sp]; omega
    have := Int.le_of_mul_le_mul_left this hp
    omega
theorem Shr.sum {low old : List Int} (h : Shr low old) (t : Int) : (share t low old).sum = low.sum + spareOf t low := by
  have h1 := h.rest t
  have he := h.elen
  have hl := h.ln
  show (give (extrasOf low old) (newsOf (spareOf t low) (extrasOf low old).sum low (extrasOf low old)) (spareOf t low - ((newsOf (spareOf t low) (extrasOf low old).sum low (extrasOf low old)).sum - low.sum))).sum = _
  rw [newsOf_sum _ _ (by omega), give_sum _ _ _ (by rw [news_len]; omega) (by omega) (by omega), newsOf_sum _ _ (by omega)]
  omega
theorem Shr.ge {low old : List Int} (h : Shr low old) (t : Int) (i : Nat) : low.getD i 0 ≤ (share t low old).getD i 0 := by
  have he := h.elen
  have hl := h.ln
  unfold share
  exact Int.le_trans (newsOf_get (spare_nn t low) h.epos _ _ i (by omega) fun e he => (h.emem e he).1) (give_ge ..)
theorem getD_mem {xs : List Int} {i : Nat} (h : i < xs.length) : xs.getD i 0 ∈ xs := by
  rw [List.getD_eq_getElem?_getD, List.getElem?_eq_getElem h]; exact List.getElem_mem h
theorem mem_getD {xs : List Int} {x : Int} (h : x ∈ xs) : ∃ i, i < xs.length ∧ xs.getD i 0 = x := by
  obtain ⟨i, hi, e⟩ := List.getElem_of_mem h
  exact ⟨i, hi, by rw [List.getD_eq_getElem?_getD, List.getElem?_eq_getElem hi]; exact e⟩
theorem Shr.nn {low old : List Int} (h : Shr low old) (t : Int) : ∀ x ∈ share t low old, 0 ≤ x := by
  intro x hx
  obtain ⟨i, hi, rfl⟩ := mem_getD hx
  rw [h.len] at hi
  have := h.ge t i
  have := h.lo _ (getD_mem (xs := low) (i := i) (by rw [h.ln]; exact hi))
  omega
theorem Shr.le {low old : List Int} (h : Shr low old) {t : Int} (ht : low.sum + ((low.length : Int) - 1) ≤ t) : ∀ x ∈ share t low old, x ≤ t := by
  intro x hx
  have h1 := sum_mem (h.nn t) hx
  rw [h.sum] at h1
  have := h.l1
  have := h.ln
  unfold spareOf at h1
  omega
/-! ### fitting -/
theorem extrasOf_len {low old : List Int} (h : low.length = old.length) : (extrasOf low old).length = old.length := by
  unfold extrasOf
  split
  · simp
  · exact extras0_len h
theorem sizesOf_len (b : Bool) (ps : List Part) (w h : Int) : (sizesOf b ps w h).length = ps.length := by
  unfold sizesOf share
  rw [give_len, news_len, extrasOf_len (by simp)]
  simp
theorem zip_fst {α β γ : Type} (g : α → γ) (xs : List α) (ys : List β) (h : xs.length ≤ ys.length) : (xs.zip ys).map (fun p => g p.1) = xs.map g := by
  have : (fun p : α × β => g p.1) = g ∘ Prod.fst := rfl
  rw [this, ← List.map_map, List.map_fst_zip h]
theorem zip_snd {α β γ : Type} (g : β → γ) (xs : List α) (ys : List β) (h : ys.length ≤ xs.length) : (xs.zip ys).map (fun p => g p.2) = ys.map g := by
  have : (fun p : α × β => g p.2) = g ∘ Prod.snd := rfl
  rw [this, ← List.map_map, List.map_snd_zip h]
/-- what a fitted node's parts have of the old ones -/
theorem fit_map {γ : Type} (g : Part → γ) (g' : Part → γ) (b : Bool) (ps : List Part) (w h : Int) (f : Part × Int → Part) (hg : ∀ x ∈ ps, ∀ s, g (f (x, s)) = g' x) : ((ps.zip (sizesOf b ps w h)).map f).map g = ps.map g' := by
  rw [List.map_map, ← zip_fst g' ps (sizesOf b ps w h) (by rw [sizesOf_len]; exact Nat.le_refl _)]
  apply List.map_congr_left
  intro y hy
  exact hg y.1 (List.of_mem_zip hy).1 y.2
theorem fit_panes : ∀ (L : Lay) (w h : Int), (L.fit w h).panes = L.panes :=
  Lay.ind (fun p w h => by rw [fit_pane]) fun b ps ih w h => by
    rw [fit_node, panes_node, panes_node, List.flatMap_def, List.flatMap_def, fit_map (fun x => x.1.panes) (fun x => x.1.panes)]
    exact fun x hx s => ih x hx _ _
theorem fit_low : ∀ (L : Lay) (w h : Int), (L.fit w h).low = L.low :=
  Lay.ind (fun p w h => by rw [fit_pane]) fun b ps ih w h => by
    rw [fit_node, low_node, low_node, fit_map (fun x => x.1.low) (fun x => x.1.low)]
    exact fun x hx s => ih x hx _ _
theorem fit_dep : ∀ (L : Lay) (w h : Int), (L.fit w h).dep = L.dep :=
  Lay.ind (fun p w h => by rw [fit_pane]) fun b ps ih w h => by
    rw [fit_node, dep_node, dep_node, fit_map (fun x => x.1.dep) (fun x => x.1.dep)]
    exact fun x hx s => ih x hx _ _
theorem low_le {B : Int} {L : Lay} (h : Ok B L) : L.low.1 + 1 ≤ 3 * L.panes.length ∧ L.low.2 + 1 ≤ 3 * L.panes.length := by
  induction h with
  | pane p => rw [low_pane, panes_pane]; exact ⟨by simp, by simp⟩
  | @node b ps two sz alt sub ih =>
    rw [low_node, panes_node]
    have hs : ∀ (f : Int × Int → Int), (∀ x ∈ ps, f x.1.low + 1 ≤ 3 * x.1.panes.length) → ((ps.map fun x => x.1.low).map f).sum + ps.length ≤ 3 * (ps.flatMap fun x => x.1.panes).length := by
      intro f hf
      rw [List.map_map]
      clear two sz alt sub ih
      induction ps with
      | nil => simp
      | cons x xs ih =>
        have h1 := hf x (by simp)
        have h2 := ih fun y hy => hf y (by simp [hy])
        simp only [List.map_cons, List.sum_cons, Function.comp, List.length_cons, List.flatMap_cons, List.length_append] at h2 ⊢
        omega
    have hm : ∀ (f : Int × Int → Int), (∀ x ∈ ps, f x.1.low + 1 ≤ 3 * x.1.panes.length) → maxL ((ps.map fun x => x.1.low).map f) + 1 ≤ 3 * (ps.flatMap fun x => x.1.panes).length := by
      intro f hf
      have := maxL_mem (ns := (ps.map fun x => x.1.low).map f) (by simp; omega)
      obtain ⟨y, hy, e⟩ := List.mem_map.mp this
      obtain ⟨x, hx, e2⟩ := List.mem_map.mp hy
      rw [← e, ← e2]
      have h1 := hf x hx
      have h2 := flat_mem_len (f := fun x : Part => x.1.panes) hx
      omega
    have s1 := hs (·.1) fun x hx => (ih x hx).1
    have s2 := hs (·.2) fun x hx => (ih x hx).2
    have m1 := hm (·.1) fun x hx => (ih x hx).1
    have m2 := hm (·.2) fun x hx => (ih x hx).2
    unfold lowOf
    cases b
    · simp only [Bool.false_eq_true, if_false, List.length_map]; exact ⟨by omega, m2⟩
    · simp only [if_true, List.length_map]; exact ⟨m1, by omega⟩
theorem dep_panes {B : Int} {L : Lay} (h : Ok B L) : L.dep ≤ L.panes.length := by
  induction h with
  | pane p => rw [dep_pane, panes_pane]; exact Nat.le_refl _
  | @node b ps two sz alt sub ih =>
    rw [panes_node]
    have key : ∀ x ∈ ps, x.1.dep + 1 ≤ (ps.flatMap fun x => x.1.panes).length := by
      have hp : ∀ x ∈ ps, 1 ≤ x.1.panes.length := fun x hx => panes_pos (sub x hx)
      intro x hx
      have h1 := ih x hx
      obtain ⟨A, C, rfl⟩ := List.append_of_mem hx
      simp only [List.flatMap_append, List.flatMap_cons, List.length_append, List.length_cons] at two ⊢
      have hA := flat_len (k := 1) (f := fun x : Part => x.1.panes) (xs := A) fun y hy => hp y (by simp [hy])
      have hC := flat_len (k := 1) (f := fun x : Part => x.1.panes) (xs := C) fun y hy => hp y (by simp [hy])
      omega
    obtain ⟨n, hn⟩ : ∃ n, (ps.flatMap fun x => x.1.panes).length = n + 1 := by
      cases ps with
      | nil => simp at two
      | cons x xs => have := key x (by simp); exact ⟨(List.flatMap (fun x => x.1.panes) (x :: xs)).length - 1, by omega⟩
    rw [hn]
    exact dep_le fun x hx => by have := key x hx; omega
/-- sizes are not below the least ones -/
inductive Big : Lay → Prop
  | pane (p : Int) : Big (.pane p)
  | node {b : Bool} {ps : List Part} (sz : ∀ x ∈ ps, ax b x.1.low ≤ x.2) (sub : ∀ x ∈ ps, Big x.1) : Big (.node b ps)
theorem Big.sz {b : Bool} {ps : List Part} (h : Big (.node b ps)) : ∀ x ∈ ps, ax b x.1.low ≤ x.2 := by cases h; assumption
theorem Big.sub {b : Bool} {ps : List Part} (h : Big (.node b ps)) : ∀ x ∈ ps, Big x.1 := by cases h; assumption
theorem shrOf {B : Int} {b : Bool} {ps : List Part} (h : Ok B (.node b ps)) (hB : B ≤ 1048576) (hl : ps.length ≤ 100) : Shr (ps.map fun x => ax b x.1.low) (ps.map (·.2)) where
  ln := by simp
  l1 := by have := h.two; simp; omega
  l2 := by simp; omega
  lo := fun x hx => by
    obtain ⟨p, hp, rfl⟩ := List.mem_map.mp hx
    exact low_nn (h.sub p hp) b
  ol := fun x hx => by
    obtain ⟨p, hp, rfl⟩ := List.mem_map.mp hx
    have := (h.sz p hp).2; show p.2 ≤ _; omega
theorem shr_of {n : Nat} {b : Bool} {ps : List Part} (h : Good n (.node b ps)) : Shr (ps.map fun x => ax b x.1.low) (ps.map (·.2)) := shrOf h.ok (by omega) h.len
theorem low_ax (b : Bool) (ps : List Part) : ax b (Lay.node b ps).low = (ps.map fun x => ax b x.1.low).sum + ((ps.length : Int) - 1) := by
  rw [low_node]
  unfold lowOf ax
  cases b <;> simp [List.map_map, Function.comp_def]
theorem parts_len {B : Int} {b : Bool} {ps : List Part} (h : Ok B (.node b ps)) : ps.length ≤ (Lay.node b ps).panes.length := by
  rw [panes_node]
  have := flat_len (k := 1) (f := fun x : Part => x.1.panes) fun x hx => panes_pos (h.sub x hx)
  omega
theorem sub_len {b : Bool} {ps : List Part} {x : Part} (hx : x ∈ ps) : x.1.panes.length ≤ (Lay.node b ps).panes.length := by
  rw [panes_node]
  exact flat_mem_len (f := fun x : Part => x.1.panes) hx
theorem fit_ok {B M : Int} (hB : B ≤ 1048576) {L : Lay} (h : Ok B L) : L.panes.length ≤ 100 → ∀ w k : Int, w ≤ M → k ≤ M → 300 ≤ M → Ok M (L.fit w k) ∧ Big (L.fit w k) := by
  induction h with
  | pane p => intro _ w k _ _ _; rw [fit_pane]; exact ⟨.pane p, .pane p⟩
  | @node b ps two sz alt sub ih =>
    intro hn w k hw hk hM
    have ok : Ok B (.node b ps) := .node two sz alt sub
    have hl := low_le ok
    have pl := parts_len ok
    have sh := shrOf ok hB (by omega)
    rw [fit_node]
    have hsz : ∀ s ∈ sizesOf b ps w k, 0 ≤ s ∧ s ≤ M := fun s hs => by
      unfold sizesOf at hs
      refine ⟨sh.nn _ s hs, ?_⟩
      have := sh.le (t := if b then max k (Lay.node b ps).low.2 else max w (Lay.node b ps).low.1) (by
        have := low_ax b ps
        rw [List.length_map]
        rw [← this]
        unfold ax
        cases b <;> simp <;> omega) s hs
      cases b <;> simp at this <;> omega
    have hge : ∀ y ∈ ps.zip (sizesOf b ps w k), ax b y.1.1.low ≤ y.2 := fun y hy => by
      obtain ⟨i, hi, e⟩ := List.getElem_of_mem hy
      rw [List.getElem_zip] at e
      simp only [List.length_zip] at hi
      have h1 := sh.ge (if b then max k (Lay.node b ps).low.2 else max w (Lay.node b ps).low.1) i
      have hi1 : i < ps.length := by omega
      have hi2 : i < (sizesOf b ps w k).length := by omega
      have e1 : ((ps.map fun x => ax b x.1.low).getD i 0) = ax b ps[i].1.low := by
        rw [List.getD_eq_getElem?_getD, List.getElem?_map, List.getElem?_eq_getElem hi1]; rfl
      have e2 : (sizesOf b ps w k).getD i 0 = (sizesOf b ps w k)[i] := by
        rw [List.getD_eq_getElem?_getD, List.getElem?_eq_getElem hi2]; rfl
      change _ ≤ (sizesOf b ps w k).getD i 0 at h1
      rw [e1, e2] at h1
      rw [← e]
      exact h1
    have hsub : ∀ y ∈ ps.zip (sizesOf b ps w k), Ok M (y.1.1.fit (if b then max w (Lay.node b ps).low.1 else y.2) (if b then y.2 else max k (Lay.node b ps).low.2)) ∧ Big (y.1.1.fit (if b then max w (Lay.node b ps).low.1 else y.2) (if b then y.2 else max k (Lay.node b ps).low.2)) := fun y hy => by
      have h1 := (List.of_mem_zip hy).1
      have h2 := hsz y.2 (List.of_mem_zip hy).2
      have h3 := sub_len (b := b) h1
      exact ih y.1 h1 (by omega) _ _ (by cases b <;> simp <;> omega) (by cases b <;> simp <;> omega) hM
    constructor
    · refine .node (by rw [List.length_map, List.length_zip, sizesOf_len]; omega) (fun x hx => ?_) (fun x hx qs => ?_) (fun x hx => ?_)
      · obtain ⟨y, hy, rfl⟩ := List.mem_map.mp hx
        exact hsz y.2 (List.of_mem_zip hy).2
      · obtain ⟨y, hy, rfl⟩ := List.mem_map.mp hx
        have := alt y.1 (List.of_mem_zip hy).1
        intro e
        cases hc : y.1.1 with
        | pane p => rw [hc, fit_pane] at e; cases e
        | node c rs =>
          rw [hc, fit_node] at e
          injection e with e1 e2
          exact this rs (by rw [hc, e1])
      · obtain ⟨y, hy, rfl⟩ := List.mem_map.mp hx
        exact (hsub y hy).1
    · refine .node (fun x hx => ?_) (fun x hx => ?_)
      · obtain ⟨y, hy, rfl⟩ := List.mem_map.mp hx
        show ax b (Lay.fit y.1.1 _ _).low ≤ y.2
        rw [fit_low]
        exact hge y hy
      · obtain ⟨y, hy, rfl⟩ := List.mem_map.mp hx
        exact (hsub y hy).2
end
end LA

/-! LA5: splitting, removing, moving a border: what they keep -/
namespace LA
open PySem L2 ML
noncomputable section
/-! ### splitting -/
def insP (q new : Int) (ps : List Int) : List Int := ps.flatMap fun p => if p = q then [q, new] else [p]
theorem split_panes (q : Int) (way : Bool) (new size : Int) : ∀ L : Lay, (L.split q way new size).panes = insP q new L.panes :=
  Lay.ind (fun p => by
    rw [split_pane, panes_pane]
    unfold insP
    by_cases h : p = q
    · rw [if_pos h, panes_node]; simp [pairOf, panes_pane, h]
    · rw [if_neg h, panes_pane]; simp [h]) fun b ps ih => by
  rw [split_node, panes_node, panes_node]
  unfold insP at ih ⊢
  rw [List.flatMap_assoc, List.flatMap_assoc, List.flatMap_def, List.flatMap_def (l := ps)]
  congr 1
  apply List.map_congr_left
  intro x hx
  by_cases h : x.1 = .pane q ∧ b = way
  · rw [if_pos h, h.1, panes_pane]; simp [pairOf, panes_pane]
  · rw [if_neg h]
    simp only [List.flatMap_cons, List.flatMap_nil, List.append_nil]
    exact ih x hx
theorem insP_none {q new : Int} {ps : List Int} (h : q ∉ ps) : insP q new ps = ps := by
  unfold insP
  induction ps with
  | nil => rfl
  | cons p ps ih =>
    have h1 : p ≠ q := fun e => h (by simp [e])
    rw [List.flatMap_cons, if_neg h1, ih fun hq => h (by simp [hq])]
    rfl
theorem insP_split {q new : Int} {A C : List Int} (h : (A ++ q :: C).Nodup) : insP q new (A ++ q :: C) = A ++ q :: new :: C := by
  have h1 : q ∉ A := fun hq => (List.nodup_append.mp h).2.2 q hq q (by simp) rfl
  have h2 : q ∉ C := fun hq => (List.nodup_cons.mp (List.nodup_append.mp h).2.1).1 hq
  have e1 := insP_none (new := new) h1
  have e2 := insP_none (new := new) h2
  unfold insP at e1 e2 ⊢
  rw [List.flatMap_append, List.flatMap_cons, e1, e2, if_pos rfl]
  rfl
theorem insP_nodup {q new : Int} {ps : List Int} (h : ps.Nodup) (hn : new ∉ ps) : (insP q new ps).Nodup := by
  by_cases hq : q ∈ ps
  · obtain ⟨A, C, rfl⟩ := List.append_of_mem hq
    rw [insP_split h]
    have p : List.Perm (A ++ q :: new :: C) (new :: (A ++ q :: C)) := by
      have e1 : A ++ q :: new :: C = (A ++ [q]) ++ new :: C := by simp
      have e2 : A ++ q :: C = (A ++ [q]) ++ C := by simp
      rw [e1, e2]
      exact List.perm_middle
    exact p.nodup_iff.mpr (List.nodup_cons.mpr ⟨hn, h⟩)
  · rw [insP_none hq]; exact h
theorem insP_len {q new : Int} {ps : List Int} (h : ps.Nodup) : (insP q new ps).length ≤ ps.length + 1 := by
  by_cases hq : q ∈ ps
  · obtain ⟨A, C, rfl⟩ := List.append_of_mem hq
    rw [insP_split h]; simp; omega
  · rw [insP_none hq]; omega
theorem insP_mem {q new x : Int} {ps : List Int} (h : x ∈ insP q new ps) : x ∈ ps ∨ x = new := by
  unfold insP at h
  obtain ⟨p, hp, hx⟩ := List.mem_flatMap.mp h
  split at hx
  · rename_i e
    simp only [List.mem_cons, List.not_mem_nil, or_false] at hx
    rcases hx with rfl | rfl
    · exact .inl (e ▸ hp)
    · exact .inr rfl
  · simp only [List.mem_cons, List.not_mem_nil, or_false] at hx
    exact .inl (hx ▸ hp)
theorem pair_mem {q new size : Int} {x : Part} (h : x ∈ pairOf q new size) (h1 : 1 ≤ size) : 0 ≤ x.2 ∧ x.2 ≤ size - 1 ∧ ∃ p, x.1 = .pane p := by
  simp only [pairOf, List.mem_cons, List.not_mem_nil, or_false] at h
  rcases h with rfl | rfl
  · exact ⟨by show 0 ≤ size - 1 - (size - 1) / 2; omega, by show size - 1 - (size - 1) / 2 ≤ size - 1; omega, _, rfl⟩
  · exact ⟨by show 0 ≤ (size - 1) / 2; omega, by show (size - 1) / 2 ≤ size - 1; omega, _, rfl⟩
theorem split_ok {B : Int} (q : Int) (way : Bool) (new size : Int) (h1 : 1 ≤ size) (h2 : size ≤ B + 1) {L : Lay} (h : Ok B L) : Ok B (L.split q way new size) := by
  induction h with
  | pane p =>
    rw [split_pane]
    split
    · refine .node (by simp [pairOf]) (fun x hx => ?_) (fun x hx qs e => ?_) fun x hx => ?_
      · have := pair_mem hx h1; omega
      · obtain ⟨_, _, p, hp⟩ := pair_mem hx h1
        rw [hp] at e; cases e
      · obtain ⟨_, _, p, hp⟩ := pair_mem hx h1
        rw [hp]; exact .pane p
    · exact .pane p
  | @node b ps two sz alt sub ih =>
    rw [split_node]
    refine .node ?_ (fun x hx => ?_) (fun x hx qs e => ?_) fun x hx => ?_
    · have := flat_len (k := 1) (f := fun x : Part => if x.1 = .pane q ∧ b = way then pairOf q new size else [(x.1.split q way new size, x.2)]) (xs := ps) fun x hx => by
        show 1 ≤ List.length (if _ then _ else _)
        split
        · simp [pairOf]
        · simp
      omega
    · obtain ⟨y, hy, hx⟩ := List.mem_flatMap.mp hx
      split at hx
      · have := pair_mem hx h1; omega
      · simp only [List.mem_cons, List.not_mem_nil, or_false] at hx
        rw [hx]; exact sz y hy
    · obtain ⟨y, hy, hx⟩ := List.mem_flatMap.mp hx
      split at hx
      · obtain ⟨_, _, p, hp⟩ := pair_mem hx h1
        rw [hp] at e; cases e
      · rename_i hc
        simp only [List.mem_cons, List.not_mem_nil, or_false] at hx
        rw [hx] at e
        have e : y.1.split q way new size = .node b qs := e
        cases hy1 : y.1 with
        | pane p =>
          rw [hy1, split_pane] at e
          split at e
          · rename_i hp
            injection e with e1 e2
            exact hc ⟨by rw [hy1, hp], e1.symm⟩
          · cases e
        | node c rs =>
          rw [hy1, split_node] at e
          injection e with e1 e2
          exact alt y hy rs (by rw [hy1, e1])
    · obtain ⟨y, hy, hx⟩ := List.mem_flatMap.mp hx
      split at hx
      · obtain ⟨_, _, p, hp⟩ := pair_mem hx h1
        rw [hp]; exact .pane p
      · simp only [List.mem_cons, List.not_mem_nil, or_false] at hx
        rw [hx]; exact ih y hy
/-! ### the part with a pane -/
theorem findP_at {q : Int} : ∀ {A C : List Part} {x : Part}, (∀ y ∈ A, q ∉ y.1.panes) → q ∈ x.1.panes → findP q (A ++ x :: C) = A.length
  | [], C, x, _, h => by simp [findP, h]
  | a :: A, C, x, hA, h => by
    have h1 : q ∉ a.1.panes := hA a (by simp)
    have := findP_at (A := A) (C := C) (fun y hy => hA y (by simp [hy])) h
    simp [findP, h1, this]
theorem findP_none {q : Int} : ∀ {ps : List Part}, (∀ y ∈ ps, q ∉ y.1.panes) → findP q ps = ps.length
  | [], _ => rfl
  | a :: A, hA => by
    have h1 : q ∉ a.1.panes := hA a (by simp)
    have := findP_none (ps := A) (fun y hy => hA y (by simp [hy]))
    simp [findP, h1, this]
theorem part_at {q : Int} : ∀ {ps : List Part}, (∃ y ∈ ps, q ∈ y.1.panes) → ∃ A x C, ps = A ++ x :: C ∧ (∀ y ∈ A, q ∉ y.1.panes) ∧ q ∈ x.1.panes
  | [], ⟨y, h, _⟩ => by cases h
  | a :: A, ⟨y, hy, hq⟩ => by
    by_cases h : q ∈ a.1.panes
    · exact ⟨[], a, A, rfl, fun _ h => by simp at h, h⟩
    · have : y ∈ A := by
        rcases List.mem_cons.mp hy with e | hy
        · exact absurd (e ▸ hq) h
        · exact hy
      obtain ⟨B, x, C, e, h1, h2⟩ := part_at ⟨y, this, hq⟩
      exact ⟨a :: B, x, C, by rw [e]; rfl, fun z hz => by
        rcases List.mem_cons.mp hz with e | hz
        · rw [e]; exact h
        · exact h1 z hz, h2⟩
theorem node_at {q : Int} {b : Bool} {ps : List Part} (h : q ∈ (Lay.node b ps).panes) : ∃ A x C, ps = A ++ x :: C ∧ (∀ y ∈ A, q ∉ y.1.panes) ∧ q ∈ x.1.panes := by
  rw [panes_node] at h
  obtain ⟨y, hy, hq⟩ := List.mem_flatMap.mp h
  exact part_at ⟨y, hy, hq⟩
theorem node_rest {q : Int} {b : Bool} {A C : List Part} {x : Part} (nd : (Lay.node b (A ++ x :: C)).panes.Nodup) (hq : q ∈ x.1.panes) : (∀ y ∈ A, q ∉ y.1.panes) ∧ (∀ y ∈ C, q ∉ y.1.panes) ∧ x.1.panes.Nodup ∧ (∀ y ∈ A, y.1.panes.Nodup) ∧ ∀ y ∈ C, y.1.panes.Nodup := by
  rw [panes_node, List.flatMap_append, List.flatMap_cons] at nd
  have n1 := List.nodup_append.mp nd
  have n2 := List.nodup_append.mp n1.2.1
  have sub : ∀ {D : List Part}, (D.flatMap fun x => x.1.panes).Nodup → ∀ y ∈ D, y.1.panes.Nodup := fun {D} hD y hy => by
    obtain ⟨E, F, rfl⟩ := List.append_of_mem hy
    rw [List.flatMap_append, List.flatMap_cons] at hD
    exact (List.nodup_append.mp (List.nodup_append.mp hD).2.1).1
  refine ⟨fun y hy h => ?_, fun y hy h => ?_, n2.1, sub n1.1, sub n2.2.1⟩
  · exact n1.2.2 q (List.mem_flatMap.mpr ⟨y, hy, h⟩) q (List.mem_append.mpr (.inl hq)) rfl
  · exact n2.2.2 q hq q (List.mem_flatMap.mpr ⟨y, hy, h⟩) rfl
/-! ### removing -/
def dropS (A : List Part) (x : Part) (C : List Part) : List Part := (A ++ C).modify (A.length - 1) fun y => (y.1, y.2 + (x.2 + 1))
theorem dropAt_at (A : List Part) (x : Part) (C : List Part) : dropAt (A ++ x :: C) A.length = dropS A x C := by
  unfold dropAt dropS
  have e : (A ++ x :: C).eraseIdx A.length = A ++ C := by
    rw [List.eraseIdx_append_of_length_le (Nat.le_refl _), Nat.sub_self]; rfl
  have e2 : (A ++ x :: C).getD A.length (.pane 0, 0) = x := by
    rw [List.getD_eq_getElem?_getD, List.getElem?_append_right (Nat.le_refl _), Nat.sub_self]; rfl
  rw [e, e2]
def spl (b : Bool) (A : List Part) (rest : Lay) (s : Int) (C : List Part) : Lay := match rest with
  | .node c qs => if c = b then .node b (A ++ qs ++ C) else .node b (A ++ [(rest, s)] ++ C)
  | .pane _ => .node b (A ++ [(rest, s)] ++ C)
theorem splice_at (b : Bool) (A : List Part) (x : Part) (C : List Part) (rest : Lay) (s : Int) : splice b (A ++ x :: C) A.length rest s = spl b A rest s C := by
  have e1 : (A ++ x :: C).take A.length = A := by simp
  have e2 : (A ++ x :: C).drop (A.length + 1) = C := by
    rw [← List.drop_drop, List.drop_left]; rfl
  unfold splice spl
  cases rest with
  | pane p => simp only [e1, e2]
  | node c qs => simp only [e1, e2]
theorem taken_pane (q p : Int) : (Lay.pane p).taken q = .pane p := by rw [Lay.taken]
theorem taken_none {q : Int} {b : Bool} {ps : List Part} (h : ∀ y ∈ ps, q ∉ y.1.panes) : (Lay.node b ps).taken q = .node b ps := by
  rw [Lay.taken, dif_neg (by rw [findP_none h]; omega)]
theorem taken_at {q : Int} {b : Bool} {A C : List Part} {x : Part} (hA : ∀ y ∈ A, q ∉ y.1.panes) (hq : q ∈ x.1.panes) :
    (Lay.node b (A ++ x :: C)).taken q = if x.1 = .pane q then single b (dropS A x C) else spl b A (x.1.taken q) x.2 C := by
  have e := findP_at (C := C) hA hq
  have hl : findP q (A ++ x :: C) < (A ++ x :: C).length := by rw [e]; simp
  have eg : (A ++ x :: C)[findP q (A ++ x :: C)] = x := by
    have : (A ++ x :: C)[findP q (A ++ x :: C)]? = some x := by rw [e]; simp
    rw [List.getElem?_eq_getElem hl] at this
    exact Option.some.inj this
  rw [Lay.taken, dif_pos hl, eg, e, dropAt_at, splice_at]
theorem not_taken {q : Int} {L : Lay} (h : q ∉ L.panes) : L.taken q = L := by
  cases L with
  | pane p => exact taken_pane q p
  | node b ps => exact taken_none fun y hy hq => h (by rw [panes_node]; exact List.mem_flatMap.mpr ⟨y, hy, hq⟩)
theorem modify_map {α β : Type} (g : α → β) (f : α → α) (h : ∀ x, g (f x) = g x) : ∀ (xs : List α) (i : Nat), (xs.modify i f).map g = xs.map g
  | [], i => by cases i <;> rfl
  | x :: xs, 0 => by simp [h]
  | x :: xs, i + 1 => by simp [modify_map g f h xs i]
theorem mem_modify {α : Type} {f : α → α} {x : α} : ∀ {xs : List α} {i : Nat}, x ∈ xs.modify i f → x ∈ xs ∨ ∃ y ∈ xs, x = f y
  | [], i, h => by cases i <;> cases h
  | y :: ys, 0, h => by
    simp only [List.modify_zero_cons, List.mem_cons] at h
    rcases h with rfl | h
    · exact .inr ⟨y, by simp, rfl⟩
    · exact .inl (by simp [h])
  | y :: ys, i + 1, h => by
    simp only [List.modify_succ_cons, List.mem_cons] at h
    rcases h with rfl | h
    · exact .inl (by simp)
    · rcases mem_modify h with h | ⟨z, hz, e⟩
      · exact .inl (by simp [h])
      · exact .inr ⟨z, by simp [hz], e⟩
theorem dropS_map {β : Type} (g : Lay → β) (A : List Part) (x : Part) (C : List Part) : (dropS A x C).map (fun y => g y.1) = (A ++ C).map fun y => g y.1 := modify_map (fun y : Part => g y.1) (fun y => (y.1, y.2 + (x.2 + 1))) (fun _ => rfl) _ _
theorem dropS_len (A : List Part) (x : Part) (C : List Part) : (dropS A x C).length = A.length + C.length := by
  have := congrArg List.length (dropS_map (fun L => L) A x C)
  simpa using this
theorem single_panes (b : Bool) (ps : List Part) : (single b ps).panes = ps.flatMap fun x => x.1.panes := by
  unfold single
  split
  · simp
  · rw [panes_node]
theorem spl_panes (b : Bool) (A : List Part) (rest : Lay) (s : Int) (C : List Part) : (spl b A rest s C).panes = (A.flatMap fun x => x.1.panes) ++ (rest.panes ++ C.flatMap fun x => x.1.panes) := by
  unfold spl
  split
  · rename_i c qs
    split
    · rw [panes_node, panes_node]; simp
    · rw [panes_node]; simp
  · rw [panes_node]; simp
theorem taken_panes {B : Int} {q : Int} {L : Lay} (h : Ok B L) : L.panes.Nodup → L ≠ .pane q → (L.taken q).panes = L.panes.filter fun p => p ≠ q := by
  induction h with
  | pane p =>
    intro _ ne
    have : p ≠ q := fun e => ne (by rw [e])
    rw [taken_pane, panes_pane]; simp [this]
  | @node b ps two sz alt sub ih =>
    intro nd _
    by_cases hq : q ∈ (Lay.node b ps).panes
    · obtain ⟨A, x, C, rfl, hA, hx⟩ := node_at hq
      obtain ⟨_, hC, ndx, _, _⟩ := node_rest nd hx
      have fl : ∀ D : List Part, (∀ y ∈ D, q ∉ y.1.panes) → (D.flatMap fun x => x.1.panes).filter (fun p => p ≠ q) = D.flatMap fun x => x.1.panes := fun D hD =>
        List.filter_eq_self.mpr fun p hp => by
          obtain ⟨y, hy, hp⟩ := List.mem_flatMap.mp hp
          simp only [ne_eq, decide_not, Bool.not_eq_true', decide_eq_false_iff_not]
          exact fun e => hD y hy (e ▸ hp)
      rw [taken_at hA hx, panes_node, List.flatMap_append, List.flatMap_cons, List.filter_append, List.filter_append, fl A hA, fl C hC]
      split
      · rename_i e
        rw [single_panes, List.flatMap_def, dropS_map, ← List.flatMap_def, List.flatMap_append, e, panes_pane]
        simp
      · rename_i e
        rw [spl_panes, ih x (by simp) ndx e]
    · rw [not_taken hq]
      refine (List.filter_eq_self.mpr fun p hp => ?_).symm
      simp only [ne_eq, decide_not, Bool.not_eq_true', decide_eq_false_iff_not]
      exact fun e => hq (e ▸ hp)
theorem taken_ok {B : Int} {q : Int} {L : Lay} (h : Ok B L) (hB : 0 ≤ B) : Ok (2 * B + 1) (L.taken q) := by
  induction h with
  | pane p => rw [taken_pane]; exact .pane p
  | @node b ps two sz alt sub ih =>
    by_cases hq : q ∈ (Lay.node b ps).panes
    · obtain ⟨A, x, C, rfl, hA, hx⟩ := node_at hq
      have mono : ∀ y ∈ A ++ x :: C, Ok (2 * B + 1) y.1 := fun y hy => (sub y hy).mono (by omega)
      have szx := sz x (by simp)
      rw [taken_at hA hx]
      split
      · have mem : ∀ y ∈ dropS A x C, ∃ z ∈ A ++ C, y.1 = z.1 ∧ 0 ≤ y.2 ∧ y.2 ≤ 2 * B + 1 := fun y hy => by
          have key : ∀ z ∈ A ++ C, 0 ≤ z.2 ∧ z.2 ≤ B := fun z hz => sz z (by simp only [List.mem_append, List.mem_cons] at hz ⊢; rcases hz with h | h <;> simp [h])
          rcases mem_modify hy with h | ⟨z, hz, rfl⟩
          · have := key y h; exact ⟨y, h, rfl, by omega, by omega⟩
          · have := key z hz; exact ⟨z, hz, rfl, by show 0 ≤ z.2 + (x.2 + 1); omega, by show z.2 + (x.2 + 1) ≤ _; omega⟩
        have up : ∀ z ∈ A ++ C, z ∈ A ++ x :: C := fun z hz => by simp only [List.mem_append, List.mem_cons] at hz ⊢; rcases hz with h | h <;> simp [h]
        have hl := dropS_len A x C
        simp only [List.length_append, List.length_cons] at two
        unfold single
        split
        · rename_i y e
          obtain ⟨z, hz, e1, _⟩ := mem y (by rw [e]; simp)
          rw [e1]; exact mono z (up z hz)
        · rename_i hne
          have h2 : 2 ≤ (dropS A x C).length := by
            cases e : dropS A x C with
            | nil => rw [e] at hl; simp at hl; omega
            | cons y r =>
              cases r with
              | nil => exact absurd e (hne y)
              | cons z r => simp
          refine .node h2 (fun y hy => ?_) (fun y hy qs e => ?_) fun y hy => ?_
          · obtain ⟨z, hz, e1, h1, h2⟩ := mem y hy; exact ⟨h1, h2⟩
          · obtain ⟨z, hz, e1, h1, h2⟩ := mem y hy; exact alt z (up z hz) qs (e1 ▸ e)
          · obtain ⟨z, hz, e1, h1, h2⟩ := mem y hy; rw [e1]; exact mono z (up z hz)
      · have hr := ih x (by simp)
        generalize hrest : x.1.taken q = rest at hr
        have szs : ∀ y ∈ A ++ x :: C, 0 ≤ y.2 ∧ y.2 ≤ 2 * B + 1 := fun y hy => by have := sz y hy; omega
        have plain : (∀ qs, rest ≠ .node b qs) → Ok (2 * B + 1) (.node b (A ++ [(rest, x.2)] ++ C)) := fun hne => by
          have up : ∀ y ∈ A ++ [(rest, x.2)] ++ C, y = (rest, x.2) ∨ y ∈ A ++ x :: C := fun y hy => by
            simp only [List.mem_append, List.mem_cons, List.not_mem_nil, or_false] at hy ⊢
            rcases hy with (h | h) | h <;> simp [h]
          refine .node (by simp only [List.length_append, List.length_cons, List.length_nil] at two ⊢; omega) (fun y hy => ?_) (fun y hy qs e => ?_) fun y hy => ?_
          · rcases up y hy with rfl | h
            · exact szs x (by simp)
            · exact szs y h
          · rcases up y hy with rfl | h
            · exact hne qs e
            · exact alt y h qs e
          · rcases up y hy with rfl | h
            · exact hr
            · exact mono y h
        unfold spl
        split
        · rename_i c rs
          split
          · rename_i ec
            subst ec
            have up : ∀ y ∈ A ++ rs ++ C, y ∈ rs ∨ y ∈ A ++ x :: C := fun y hy => by
              simp only [List.mem_append, List.mem_cons] at hy ⊢
              rcases hy with (h | h) | h <;> simp [h]
            refine .node (by have := hr.two; simp only [List.length_append]; omega) (fun y hy => ?_) (fun y hy qs e => ?_) fun y hy => ?_
            · rcases up y hy with h | h
              · exact hr.sz y h
              · exact szs y h
            · rcases up y hy with h | h
              · exact hr.alt y h qs e
              · exact alt y h qs e
            · rcases up y hy with h | h
              · exact hr.sub y h
              · exact mono y h
          · rename_i ec
            exact plain fun qs e => ec (by injection e)
        · exact plain fun qs e => nomatch e
    · rw [not_taken hq]
      exact .node two (fun y hy => by have := sz y hy; omega) alt fun y hy => (sub y hy).mono (by omega)
/-! ### moving a border -/
def chg (b : Bool) (x y : Part) (amount : Int) : Int := max (ax b x.1.low - x.2) (min (y.2 - ax b y.1.low) amount)
theorem shift_pane (q : Int) (way : Bool) (amount p : Int) : (Lay.pane p).shift q way amount = none := by rw [Lay.shift]
theorem shift_none {q : Int} {way : Bool} {amount : Int} {b : Bool} {ps : List Part} (h : ∀ y ∈ ps, q ∉ y.1.panes) : (Lay.node b ps).shift q way amount = none := by
  rw [Lay.shift, dif_neg (by rw [findP_none h]; omega)]
def shiftS (b way : Bool) (amount : Int) (A : List Part) (x : Part) (C : List Part) : Option Lay → Option Lay
  | some M => some (.node b (A ++ (M, x.2) :: C))
  | none => if b = way then (match C with
    | y :: D => some (.node b (A ++ (x.1, x.2 + chg way x y amount) :: (y.1, y.2 - chg way x y amount) :: D))
    | [] => none) else none
theorem shift_at {q : Int} {way : Bool} {amount : Int} {b : Bool} {A C : List Part} {x : Part} (hA : ∀ y ∈ A, q ∉ y.1.panes) (hq : q ∈ x.1.panes) :
    (Lay.node b (A ++ x :: C)).shift q way amount = shiftS b way amount A x C (x.1.shift q way amount) := by
  have e := findP_at (C := C) hA hq
  have hl : findP q (A ++ x :: C) < (A ++ x :: C).length := by rw [e]; simp
  have eg : (A ++ x :: C)[findP q (A ++ x :: C)] = x := by
    have : (A ++ x :: C)[findP q (A ++ x :: C)]? = some x := by rw [e]; simp
    rw [List.getElem?_eq_getElem hl] at this
    exact Option.some.inj this
  rw [Lay.shift, dif_pos hl, eg, e]
  unfold shiftS
  cases x.1.shift q way amount with
  | some M => simp
  | none =>
    simp only
    cases C with
    | nil => simp
    | cons y D =>
      by_cases hb : b = way
      · rw [if_pos ⟨hb, by simp⟩, if_pos hb]
        unfold shiftAt
        rw [List.drop_left, List.take_left]
        rfl
      · rw [if_neg (fun z => hb z.1), if_neg hb]
theorem shift_dir {q : Int} {way : Bool} {amount : Int} {L M : Lay} (h : L.shift q way amount = some M) : ∃ b ps rs, L = .node b ps ∧ M = .node b rs := by
  cases L with
  | pane p => rw [shift_pane] at h; cases h
  | node b ps =>
    refine ⟨b, ps, ?_⟩
    by_cases hq : ∃ y ∈ ps, q ∈ y.1.panes
    · obtain ⟨A, x, C, rfl, hA, hx⟩ := part_at hq
      rw [shift_at hA hx] at h
      unfold shiftS at h
      split at h
      · cases h; exact ⟨_, rfl, rfl⟩
      · split at h
        · split at h
          · cases h; exact ⟨_, rfl, rfl⟩
          · cases h
        · cases h
    · rw [shift_none fun y hy hc => hq ⟨y, hy, hc⟩] at h; cases h
theorem shift_panes {q : Int} {way : Bool} {amount : Int} : ∀ L : Lay, ∀ M, L.shift q way amount = some M → M.panes = L.panes :=
  Lay.ind (fun p M h => by rw [shift_pane] at h; cases h) fun b ps ih M h => by
    by_cases hq : ∃ y ∈ ps, q ∈ y.1.panes
    · obtain ⟨A, x, C, rfl, hA, hx⟩ := part_at hq
      rw [shift_at hA hx] at h
      unfold shiftS at h
      split at h
      · rename_i N e
        cases h
        rw [panes_node, panes_node]
        simp only [List.flatMap_append, List.flatMap_cons, ih x (by simp) N e]
      · split at h
        · split at h
          · cases h
            rw [panes_node, panes_node]
            simp only [List.flatMap_append, List.flatMap_cons]
          · cases h
        · cases h
    · rw [shift_none fun y hy hc => hq ⟨y, hy, hc⟩] at h; cases h
theorem shift_ok {B : Int} {q : Int} {way : Bool} {amount : Int} {L : Lay} (h : Ok B L) (hB : 0 ≤ B) : Big L → ∀ M, L.shift q way amount = some M → Ok (2 * B) M := by
  induction h with
  | pane p => intro _ M h; rw [shift_pane] at h; cases h
  | @node b ps two sz alt sub ih =>
    intro big M h
    by_cases hq : ∃ y ∈ ps, q ∈ y.1.panes
    · obtain ⟨A, x, C, rfl, hA, hx⟩ := part_at hq
      rw [shift_at hA hx] at h
      have mono : ∀ y ∈ A ++ x :: C, Ok (2 * B) y.1 := fun y hy => (sub y hy).mono (by omega)
      have szs : ∀ y ∈ A ++ x :: C, 0 ≤ y.2 ∧ y.2 ≤ 2 * B := fun y hy => by have := sz y hy; omega
      unfold shiftS at h
      split at h
      · rename_i N e
        cases h
        have up : ∀ y ∈ A ++ (N, x.2) :: C, y = (N, x.2) ∨ y ∈ A ++ x :: C := fun y hy => by
          simp only [List.mem_append, List.mem_cons] at hy ⊢
          rcases hy with h | h | h <;> simp [h]
        refine .node (by simpa using two) (fun y hy => ?_) (fun y hy qs e => ?_) fun y hy => ?_
        · rcases up y hy with rfl | h
          · exact szs x (by simp)
          · exact szs y h
        · rcases up y hy with rfl | h
          · rename_i e0
            obtain ⟨c, rs, ss, e1, e2⟩ := shift_dir e0
            have e : N = .node b qs := e
            rw [e2] at e
            injection e with e3 e4
            exact alt x (by simp) rs (by rw [e1, e3])
          · exact alt y h qs e
        · rcases up y hy with rfl | h
          · exact ih x (by simp) (big.sub x (by simp)) N e
          · exact mono y h
      · split at h
        · rename_i hb
          split at h
          · rename_i y D
            cases h
            have b1 := big.sz x (by simp)
            have b2 := big.sz y (by simp)
            have s1 := sz x (by simp)
            have s2 := sz y (by simp)
            have l1 := low_nn (sub x (by simp)) b
            have l2 := low_nn (sub y (by simp)) b
            rw [← hb]
            have hc1 : ax b x.1.low - x.2 ≤ chg b x y amount := by unfold chg; omega
            have hc2 : chg b x y amount ≤ y.2 - ax b y.1.low := by unfold chg; omega
            generalize chg b x y amount = a at hc1 hc2
            have up : ∀ z ∈ A ++ (x.1, x.2 + a) :: (y.1, y.2 - a) :: D, (z = (x.1, x.2 + a) ∨ z = (y.1, y.2 - a)) ∨ z ∈ A ++ x :: y :: D := fun z hz => by
              simp only [List.mem_append, List.mem_cons] at hz ⊢
              rcases hz with h | h | h | h <;> simp [h]
            refine .node (by simpa using two) (fun z hz => ?_) (fun z hz qs e => ?_) fun z hz => ?_
            · rcases up z hz with (rfl | rfl) | h
              · show 0 ≤ x.2 + a ∧ x.2 + a ≤ 2 * B; omega
              · show 0 ≤ y.2 - a ∧ y.2 - a ≤ 2 * B; omega
              · exact szs z h
            · rcases up z hz with (rfl | rfl) | h
              · exact alt x (by simp) qs e
              · exact alt y (by simp) qs e
              · exact alt z h qs e
            · rcases up z hz with (rfl | rfl) | h
              · exact mono x (by simp)
              · exact mono y (by simp)
              · exact mono z h
          · cases h
        · cases h
    · rw [shift_none fun y hy hc => hq ⟨y, hy, hc⟩] at h; cases h
end
end LA

/-! LA6: layouts that steps make -/
namespace LA
open PySem L2 ML
noncomputable section
theorem boxes_le {B M : Int} {L : Lay} (h : Ok B L) : B ≤ M → ∀ r c w k : Int, w ≤ M → k ≤ M → ∀ x ∈ L.boxes r c w k, x.2.2.2.1 ≤ M ∧ x.2.2.2.2 ≤ M := by
  induction h with
  | pane p =>
    intro _ r c w k hw hk x hx
    rw [boxes_pane] at hx
    rw [List.mem_singleton.mp hx]; exact ⟨hw, hk⟩
  | @node b ps two sz alt sub ih =>
    intro hB r c w k hw hk x hx
    rw [boxes_node] at hx
    have key : ∀ (qs : List Part) (cc o : Int), (∀ y ∈ qs, y ∈ ps) → ∀ x ∈ boxesL b cc w k o qs, x.2.2.2.1 ≤ M ∧ x.2.2.2.2 ≤ M := by
      intro qs cc
      induction qs with
      | nil => intro o _ x hx; cases hx
      | cons y ys ih2 =>
        intro o hy x hx
        unfold boxesL at hx
        have := (sz y (hy y (by simp))).2
        rcases List.mem_append.mp hx with h | h
        · cases b
          · exact ih y (hy y (by simp)) hB _ _ _ _ (by omega) hk x h
          · exact ih y (hy y (by simp)) hB _ _ _ _ hw (by omega) x h
        · exact ih2 _ (fun z hz => hy z (by simp [hz])) x h
    exact key ps _ _ (fun y hy => hy) x hx
theorem roomIn_le {M : Int} (hM : 0 ≤ M) (q : Int) (b : Bool) : ∀ xs : List Box, (∀ x ∈ xs, x.2.2.2.1 ≤ M ∧ x.2.2.2.2 ≤ M) → roomIn q b xs ≤ M
  | [], _ => hM
  | x :: xs, h => by
    unfold roomIn
    split
    · have := h x (by simp); split <;> omega
    · exact roomIn_le hM q b xs fun y hy => h y (by simp [hy])
theorem wayS_eq {a b : Bool} (h : wayS a = wayS b) : a = b := by
  have := wayS_inj a b
  rw [h] at this
  simpa using this.symm
def optW : Option Lay → W
  | some M => layW M
  | none => .non
theorem optW_cl (o : Option Lay) : Cl (optW o) := by
  cases o with
  | none => exact .non
  | some M => exact lay_cl M
structure Sound (N : Nat) (L : Lay) : Prop where
  ok : Ok 1048576 L
  nd : L.panes.Nodup
  ln : L.panes.length ≤ N
theorem Sound.good {N : Nat} {L : Lay} (h : Sound N L) {n : Nat} (hn : N ≤ n) (h2 : N ≤ 100) : Good n L := ⟨Nat.le_trans (dep_panes h.ok) (Nat.le_trans h.ln hn), h.ok, Nat.le_trans h.ln h2⟩
theorem Sound.mono {N M : Nat} {L : Lay} (h : Sound N L) (hn : N ≤ M) : Sound M L := ⟨h.ok, h.nd, Nat.le_trans h.ln hn⟩
theorem Good.fit {n : Nat} {L : Lay} (h : Good n L) {w k : Int} (hw : w ≤ 1000) (hk : k ≤ 1000) : Good n (L.fit w k) := by
  refine ⟨by rw [fit_dep]; exact h.dp, ?_, by rw [fit_panes]; exact h.sm⟩
  exact (fit_ok (M := 1000) (by omega) h.ok h.sm w k hw hk (by omega)).1.mono (by omega)
theorem Sound.fitOk {N : Nat} {L : Lay} (h : Sound N L) (hN : N ≤ 100) {w k : Int} (hw : w ≤ 1000) (hk : k ≤ 1000) : Ok 1000 (L.fit w k) ∧ Big (L.fit w k) :=
  fit_ok (M := 1000) (by omega) h.ok (by have := h.ln; omega) w k hw hk (by omega)
theorem Sound.fit {N : Nat} {L : Lay} (h : Sound N L) (hN : N ≤ 100) {w k : Int} (hw : w ≤ 1000) (hk : k ≤ 1000) : Sound N (L.fit w k) :=
  ⟨(h.fitOk hN hw hk).1.mono (by omega), by rw [fit_panes]; exact h.nd, by rw [fit_panes]; exact h.ln⟩
theorem Sound.room {N : Nat} {L : Lay} (h : Sound N L) (hN : N ≤ 100) {w k : Int} (hw : w ≤ 1000) (hk : k ≤ 1000) (q : Int) (b : Bool) : L.room w k q b ≤ 1000 := by
  have l := low_le h.ok
  have := h.ln
  exact roomIn_le (by omega) q b _ fun x hx => boxes_le (h.fitOk hN hw hk).1 (Int.le_refl _) _ _ _ _ (by omega) (by omega) x hx
theorem Sound.split {N : Nat} {L : Lay} (h : Sound N L) {q new size : Int} {way : Bool} (h1 : 1 ≤ size) (h2 : size ≤ 1000) (hn : new ∉ L.panes) : Sound (N + 1) (L.split q way new size) :=
  ⟨split_ok q way new size h1 (by omega) h.ok, by rw [split_panes]; exact insP_nodup h.nd hn, by rw [split_panes]; have := insP_len (q := q) (new := new) h.nd; have := h.ln; omega⟩
theorem Sound.divided {N : Nat} {L M : Lay} (h : Sound N L) (hN : N ≤ 99) {w k : Int} (hw : w ≤ 1000) (hk : k ≤ 1000) {q new : Int} {way : Bool} (hn : new ∉ L.panes) (e : L.divided w k q way new = some M) : Sound (N + 1) M ∧ M.panes = insP q new L.panes := by
  unfold Lay.divided at e
  by_cases hr : L.room w k q way < (if way then 3 else 5)
  · rw [if_pos hr] at e; cases e
  · rw [if_neg hr] at e
    cases e
    have hrm := h.room (by omega) hw hk q way
    have s := (h.fit (by omega) hw hk).split (q := q) (way := way) (size := L.room w k q way) (new := new) (by cases way <;> simp at hr <;> omega) hrm (by rw [fit_panes]; exact hn)
    exact ⟨s.fit (by omega) hw hk, by rw [fit_panes, split_panes, fit_panes]⟩
theorem fit_ne {L : Lay} {q w k : Int} (h : L ≠ .pane q) : L.fit w k ≠ .pane q := by
  cases L with
  | pane p => rw [fit_pane]; exact h
  | node b ps => rw [fit_node]; exact fun e => nomatch e
theorem Sound.taken {N : Nat} {L : Lay} (nd : L.panes.Nodup) (ln : L.panes.length ≤ N) {B : Int} (ok : Ok B L) (h0 : 0 ≤ B) (hB : B ≤ 500000) {q : Int} (hq : L ≠ .pane q) : Sound N (L.taken q) ∧ (L.taken q).panes = L.panes.filter fun p => p ≠ q := by
  have e := taken_panes ok nd hq
  refine ⟨⟨(taken_ok ok h0).mono (by omega), ?_, ?_⟩, e⟩
  · rw [e]; exact nd.filter _
  · rw [e]; exact Nat.le_trans (List.length_filter_le _ _) ln
theorem Sound.without {N : Nat} {L : Lay} (h : Sound N L) (hN : N ≤ 100) {w k : Int} (hw : w ≤ 1000) (hk : k ≤ 1000) {q : Int} (hq : L ≠ .pane q) : Sound N (L.without w k q) ∧ (L.without w k q).panes = L.panes.filter fun p => p ≠ q := by
  have f := h.fit hN hw hk
  obtain ⟨s, e⟩ := Sound.taken f.nd f.ln (h.fitOk hN hw hk).1 (by omega) (by omega) (fit_ne (w := w) (k := k) hq)
  exact ⟨s.fit hN hw hk, by unfold Lay.without; rw [fit_panes, e, fit_panes]⟩
theorem Sound.shift {N : Nat} {L : Lay} (h : Sound N L) {B : Int} (ok : Ok B L) (h0 : 0 ≤ B) (hB : B ≤ 500000) (big : Big L) {q : Int} {way : Bool} {a : Int} : Sound N ((L.shift q way a).getD L) ∧ ((L.shift q way a).getD L).panes = L.panes := by
  cases e : L.shift q way a with
  | none => exact ⟨h, rfl⟩
  | some M =>
    have p := shift_panes L M e
    exact ⟨⟨(shift_ok ok h0 big M e).mono (by omega), by rw [Option.getD_some, p]; exact h.nd, by rw [Option.getD_some, p]; exact h.ln⟩, p⟩
theorem Sound.moved {N : Nat} {L : Lay} (h : Sound N L) (hN : N ≤ 100) {w k : Int} (hw : w ≤ 1000) (hk : k ≤ 1000) {q : Int} {way : Bool} {a : Int} : Sound N (L.moved w k q way a) ∧ (L.moved w k q way a).panes = L.panes := by
  obtain ⟨o, b⟩ := h.fitOk hN hw hk
  obtain ⟨s, e⟩ := (h.fit hN hw hk).shift o (by omega) (by omega) b (q := q) (way := way) (a := a)
  exact ⟨s.fit hN hw hk, by unfold Lay.moved; rw [fit_panes, e, fit_panes]⟩
/-! ### layouts built by steps -/
def stepB (w h : Int) (s : Lay × Int) (c : Int) : Lay × Int :=
  let q := s.1.panes.getD (c % s.1.panes.length).toNat 0
  let way := decide (c / 11 % 2 = 1)
  if c / 22 % 6 < 4 then (match s.1.divided w h q way (s.2 + 1) with
    | some M => (M, s.2 + 1)
    | none => s)
  else if c / 22 % 6 = 4 then (s.1.moved w h q way (c / 132 % 21 - 10), s.2)
  else if 1 < s.1.panes.length then (s.1.without w h q, s.2) else s
def builtB (w h : Int) (cs : List Int) : Lay × Int := cs.foldl (stepB w h) (.pane 1, 1)
theorem len_ne {L : Lay} {q : Int} (h : 1 < L.panes.length) : L ≠ .pane q := fun e => by rw [e, panes_pane] at h; simp at h
structure Made (N : Nat) (s : Lay × Int) : Prop where
  so : Sound N s.1
  le : ∀ p ∈ s.1.panes, 1 ≤ p ∧ p ≤ s.2
  op : 1 ≤ s.2 ∧ s.2 ≤ N
theorem Made.new {N : Nat} {s : Lay × Int} (h : Made N s) : s.2 + 1 ∉ s.1.panes := fun hc => by have := (h.le _ hc).2; omega
theorem Made.step {N : Nat} {s : Lay × Int} (h : Made N s) (hN : N ≤ 99) {w k : Int} (hw : w ≤ 1000) (hk : k ≤ 1000) (c : Int) : Made (N + 1) (stepB w k s c) := by
  have up : Made (N + 1) s := ⟨h.so.mono (by omega), h.le, by have := h.op; omega⟩
  unfold stepB
  simp only
  split
  · split
    · rename_i M e
      obtain ⟨a, b⟩ := h.so.divided hN hw hk h.new e
      refine ⟨a, fun p hp => ?_, by have := h.op; show 1 ≤ s.2 + 1 ∧ s.2 + 1 ≤ ((N + 1 : Nat) : Int); omega⟩
      have hp : p ∈ M.panes := hp
      rw [b] at hp
      have := h.op
      rcases insP_mem hp with hp | rfl
      · have := h.le p hp; show 1 ≤ p ∧ p ≤ s.2 + 1; omega
      · show 1 ≤ s.2 + 1 ∧ s.2 + 1 ≤ s.2 + 1; omega
    · exact up
  · split
    · obtain ⟨a, b⟩ := h.so.moved (by omega) hw hk (q := s.1.panes.getD (c % s.1.panes.length).toNat 0) (way := decide (c / 11 % 2 = 1)) (a := c / 132 % 21 - 10)
      exact ⟨a.mono (by omega), fun p hp => h.le p (b ▸ hp), up.op⟩
    · split
      · rename_i hl
        obtain ⟨a, b⟩ := h.so.without (by omega) hw hk (len_ne hl (q := s.1.panes.getD (c % s.1.panes.length).toNat 0))
        refine ⟨a.mono (by omega), fun p hp => h.le p ?_, up.op⟩
        have hp : p ∈ (s.1.without w k (s.1.panes.getD (c % s.1.panes.length).toNat 0)).panes := hp
        rw [b] at hp
        exact (List.mem_filter.mp hp).1
      · exact up
theorem made0 : Made 1 (.pane 1, 1) := ⟨⟨.pane 1, by rw [panes_pane]; simp, by rw [panes_pane]; simp⟩, fun p hp => by
  have hp : p ∈ (Lay.pane 1).panes := hp
  rw [panes_pane] at hp
  rw [List.mem_singleton.mp hp]; exact ⟨by decide, by decide⟩, by decide⟩
theorem made_foldl {w k : Int} (hw : w ≤ 1000) (hk : k ≤ 1000) : ∀ (cs : List Int) (N : Nat) (s : Lay × Int), Made N s → N + cs.length ≤ 100 → Made (N + cs.length) (cs.foldl (stepB w k) s)
  | [], N, s, h, _ => h
  | c :: cs, N, s, h, hl => by
    rw [List.length_cons] at hl
    have := made_foldl hw hk cs (N + 1) _ (h.step (by omega) hw hk c) (by omega)
    rw [List.foldl_cons, List.length_cons, show N + (cs.length + 1) = N + 1 + cs.length by omega]
    exact this
theorem built_made {w k : Int} (hw : w ≤ 1000) (hk : k ≤ 1000) (cs : List Int) (hl : cs.length ≤ 99) : Made (1 + cs.length) (builtB w k cs) := made_foldl hw hk cs 1 _ made0 (by omega)
end
end LA

/-! LA7: removing, part by part -/
namespace LA
open PySem L2 ML
noncomputable section
def ctr (b : Bool) (q : Int) (y : Part) : List Part := if y.1 = .pane q then [] else match y.1.taken q with
  | .node c qs => if c = b then qs else [(.node c qs, y.2)]
  | .pane p => [(.pane p, y.2)]
def goneOf (q : Int) : Int → Nat → List Part → Int
  | g, _, [] => g
  | g, k, y :: ys => goneOf q (if y.1 = .pane q then (k : Int) else g) (k + 1) ys
theorem taken_len {B : Int} {q : Int} {L : Lay} (h : Ok B L) (nd : L.panes.Nodup) : (L.taken q).panes.length ≤ L.panes.length := by
  by_cases e : L = .pane q
  · rw [e, taken_pane]; exact Nat.le_refl _
  · rw [taken_panes h nd e]; exact List.length_filter_le _ _
theorem ctr_len {b : Bool} {q B : Int} {y : Part} (h : Ok B y.1) (hB : 0 ≤ B) (nd : y.1.panes.Nodup) : (ctr b q y).length ≤ y.1.panes.length := by
  have hp := panes_pos h
  unfold ctr
  split
  · simp
  · have hl := taken_len (q := q) h nd
    have ho := taken_ok (q := q) h hB
    split
    · rename_i c qs e
      rw [e] at hl ho
      have := parts_len ho
      split
      · omega
      · simp; omega
    · simp; omega
theorem ctr_not {b : Bool} {q : Int} {y : Part} (hq : q ∉ y.1.panes) (alt : ∀ qs, y.1 ≠ .node b qs) : ctr b q y = [y] := by
  have h1 : y.1 ≠ .pane q := fun e => hq (by rw [e, panes_pane]; simp)
  unfold ctr
  rw [if_neg h1, not_taken hq]
  obtain ⟨L, s⟩ := y
  cases L with
  | pane p => rfl
  | node c qs =>
    show (if c = b then qs else [(Lay.node c qs, s)]) = _
    rw [if_neg fun e => alt qs (by rw [e])]
theorem flat_ctr {b : Bool} {q : Int} : ∀ {ps : List Part}, (∀ y ∈ ps, q ∉ y.1.panes) → (∀ y ∈ ps, ∀ qs, y.1 ≠ .node b qs) → ps.flatMap (ctr b q) = ps
  | [], _, _ => rfl
  | y :: ys, h, alt => by
    rw [List.flatMap_cons, ctr_not (h y (by simp)) (alt y (by simp)), flat_ctr (fun z hz => h z (by simp [hz])) (fun z hz => alt z (by simp [hz]))]
    rfl
theorem gone_not {q : Int} : ∀ {ps : List Part} {g : Int} {k : Nat}, (∀ y ∈ ps, q ∉ y.1.panes) → goneOf q g k ps = g
  | [], g, k, _ => rfl
  | y :: ys, g, k, h => by
    have h1 : y.1 ≠ .pane q := fun e => h y (by simp) (by rw [e, panes_pane]; simp)
    unfold goneOf
    rw [if_neg h1, gone_not fun z hz => h z (by simp [hz])]
theorem gone_app {q : Int} : ∀ (A C : List Part) (g : Int) (k : Nat), goneOf q g k (A ++ C) = goneOf q (goneOf q g k A) (k + A.length) C
  | [], C, g, k => rfl
  | y :: A, C, g, k => by
    show goneOf q _ (k + 1) (A ++ C) = _
    rw [gone_app A C]
    show _ = goneOf q (goneOf q _ (k + 1) A) _ C
    rw [List.length_cons, show k + 1 + A.length = k + (A.length + 1) by omega]
theorem gone_at {q : Int} {A C : List Part} {x : Part} (hA : ∀ y ∈ A, q ∉ y.1.panes) (hC : ∀ y ∈ C, q ∉ y.1.panes) : goneOf q (-1) 0 (A ++ x :: C) = if x.1 = .pane q then (A.length : Int) else -1 := by
  rw [gone_app, gone_not hA]
  unfold goneOf
  rw [gone_not hC, Nat.zero_add]
theorem spl_ctr {b : Bool} {q : Int} {A C : List Part} {x : Part} (h : x.1 ≠ .pane q) : spl b A (x.1.taken q) x.2 C = .node b (A ++ ctr b q x ++ C) := by
  unfold spl ctr
  rw [if_neg h]
  cases x.1.taken q with
  | pane p => rfl
  | node c qs =>
    simp only
    split <;> rfl
theorem modify_set {α : Type} (f : α → α) : ∀ (xs : List α) (i : Nat) (h : i < xs.length), xs.modify i f = xs.set i (f xs[i])
  | [], i, h => by simp at h
  | x :: xs, 0, h => rfl
  | x :: xs, i + 1, h => by simp [modify_set f xs i (by simpa using h)]
end
end LA

/-! ML16: enumerate over a tuple; zip of a tuple and a list -/
namespace ML
open PySem PySem.Spec PyProof.Rows L2
open AutoSeq1 (wpAny_loadPart')
section
set_option maxHeartbeats 1000000 in
theorem meets_enumerate_newV {v : Value} {o : Obj} {H : Heap → Prop} (B : Begins v o H) :
    Meets (Builtin.«enumerate.__new__» ⟨[.type "enumerate", v], []⟩) (fun _ R s => H s.heap ∧
      R (.ok (.ret (.ref (s.heap.push o).objs.size))) { s with heap := (s.heap.push o).push { cls := .type "enumerate", data := .fields #[.none, .bool false, .ref s.heap.objs.size, rawInt 0, .none, .none] } }) :=
  .of_wp fun prog w A R s h => by
    obtain ⟨hp, g, d, tk, os⟩ := s; obtain ⟨h1, h⟩ := h
    have hsub := sub_enumerate
    have q1 : ∀ {A' : Around} {E : Value → Shared → Prop} {Q : Value → Shared → Prop}, Q (.ref hp.objs.size) ⟨hp.push o, g, d, tk, os⟩ → wpAny (model prog w) A' (pyIter v) Q E ⟨hp, g, d, tk, os⟩ :=
      fun q => B.iter prog w _ _ ⟨hp, g, d, tk, os⟩ _ h1 q
    wp_walk using q1
    refine wpAny_stack_any fun st => wpAny_pure ?_
    split
    · rename_i c _ _ _ _ _
      cases (c == Value.type "enumerate")
      · wp_walk using q1
        exact ⟨_, rfl, h⟩
      · wp_walk using q1
        exact ⟨_, rfl, h⟩
    · wp_walk using q1
      exact ⟨_, rfl, h⟩
variable {prog : Program} {w : World} {A : Around} {E : Value → Shared → Prop} {s : Shared}
theorem call_enumV {v : Value} {o : Obj} {H : Heap → Prop} {Q : Value → Shared → Prop} (B : Begins v o H) (h1 : H s.heap)
    (h : ∀ h', IsEnum h' (s.heap.objs.size + 1) s.heap.objs.size 0 .none → h'.get? s.heap.objs.size = some o → h'.objs.size = s.heap.objs.size + 2 →
      (∀ b o, s.heap.get? b = some o → h'.get? b = some o) → Q (.ref (s.heap.objs.size + 1)) { s with heap := h' }) :
    wpAny (model prog w) A (call (.type "enumerate") [v]) Q E s := by
  refine callType_new F.called_enumerate (by decide) (F.typeCall_enumerate_1 _) (F.newCall_enumerate_1 _) (fun obj => F.args_object_init_2 obj _) F.entry_enumerate_new
    (meets_enumerate_newV B) ⟨h1, ?_⟩
  have hz : (s.heap.push o).objs.size = s.heap.objs.size + 1 := Heap.size_push ..
  show _ ∧ _
  rw [hz]
  have he : IsEnum ((s.heap.push o).push { cls := .type "enumerate", data := .fields #[.none, .bool false, .ref s.heap.objs.size, rawInt 0, .none, .none] }) (s.heap.objs.size + 1) s.heap.objs.size 0 .none := by
    have := Heap.get?_push_size (s.heap.push o) (o := { cls := .type "enumerate", data := .fields #[.none, .bool false, .ref s.heap.objs.size, rawInt 0, .none, .none] }) rfl
    rw [hz] at this; exact this
  refine ⟨⟨_, he, rfl⟩, h _ he (Heap.get?_push_of_some _ (Heap.get?_push_size _ B.free)) (by rw [Heap.size_push, hz]) fun b o x => Heap.get?_push_of_some _ (Heap.get?_push_of_some _ x)⟩
end
/-- the tuple at a, each item in a new pair with its number -/
def IteT (K : PySem.W.Frag) (a : Addr) : It :=
  ⟨fun i H => ∃ (xs : List V) (x : V), SqT K H a xs ∧ xs[i]? = some x, fun i H v H' => ∃ T x, v = .ref T ∧ H T = none ∧ H' = upd H T (.tup [.int (i : Nat), x]) ∧ ∀ xs, SqT K H a xs → xs[i]? = some x, fun i H => ∃ xs : List V, SqT K H a xs ∧ xs.length ≤ i⟩
theorem turn_enumT {P : Program} {w : World} {K : PySem.W.Frag} {elts : List Expr} {kk : Nat} {tpos : Pos} (a e it : Addr) (hea : e ≠ a) (hia : a ≠ it) (hne : e ≠ it) :
    Turn P w K (.Tuple elts kk tpos) (IteT K a) [e, it] e (fun i h => (∃ old, IsEnum h e it ((i : Nat) : Int) old) ∧ h.IsTupleIter it a i) where
  mem := by simp
  obj := fun i h st b hb => by
    obtain ⟨⟨old, he⟩, ⟨o, ho, hc, hd⟩⟩ := st
    have e' : b = e ∨ b = it := by simpa using hb
    rcases e' with z | z
    · rw [z]; exact ⟨_, he, fun v q => nomatch q⟩
    · rw [z]; exact ⟨o, ho, fun v q => by rw [hd] at q; cases q⟩
  keep := fun i h h' st k => let ⟨⟨old, he⟩, hi⟩ := st; ⟨⟨old, k e (by simp) _ he⟩, hi.at fun o q => k it (by simp) o q⟩
  item := by
    intro X hP hw hK hc i pins s σ H E I hf st hg
    subst hP hw hK
    obtain ⟨⟨old, he⟩, hit⟩ := st
    obtain ⟨xs, x, hq, hx⟩ := hg
    obtain ⟨its, rv, p, hz⟩ := I.tuple hq
    obtain ⟨u, hu, ru⟩ := rv.get hx
    have hel : e < s.heap.objs.size := Heap.lt_size he
    have hil : it < s.heap.objs.size := by obtain ⟨_, q, _⟩ := hit; exact Heap.lt_size q
    have hh : X.A.in1.handled = none := I.ok.hd hc
    have hlt : i < its.toArray.size := by
      have := (List.getElem?_eq_some_iff.mp hu).1
      simpa using this
    refine wpAny_pyNext_enum_itemD (Draws.tuple hh it a hia its.toArray) he ⟨hit, p⟩ hlt hne (by simp [hne, hea]) fun u' h' tk hpx ho st' hT hsz hk => ?_
    have eu : u' = u := by
      have hpx : its.toArray[i]? = some u' := hpx
      have hu2 : its.toArray[i]? = some u := by simpa using hu
      rw [hu2] at hpx
      exact (Option.some.inj hpx).symm
    subst eu
    refine ⟨_, rfl, wpAny_letOwnedTupleGo_enum (s := { s with heap := h', toks := tk + 1 }) ho fun h'' he' sb => ?_⟩
    have hT2 : h''.get? s.heap.objs.size = some { cls := .type "tuple", data := .seq #[.int i tk, u'] } := (sb.2 _ (Nat.ne_of_gt hel)).trans hT
    have new : ObjOk X.prog X.w (upd H s.heap.objs.size (.tup [.int (i : Nat), x])) h'' s.heap.objs.size (.tup [.int (i : Nat), x]) :=
      ⟨by show 2 ≤ sizeLine; decide, [.int i tk, u'], .cons ⟨_, rfl⟩ (.cons ru .nil), ⟨_, hT2, rfl, _, rfl⟩⟩
    have I1 : Inv X pins σ (upd H s.heap.objs.size (.tup [.int (i : Nat), x])) { s with heap := h'', toks := tk + 1 } :=
      I.turnedNew (ch := [e, it]) (fun b ob hb q => (sb.2 b (fun z => hb (by simp [z]))).trans (hk b ob (fun z => hb (by simp [z])) (fun z => hb (by simp [z])) q)) hf (Nat.le_refl _) new
    refine ⟨.ref s.heap.objs.size, _, I1, rfl, ⟨_, x, rfl, I.hok.fresh (Nat.le_refl _), rfl, fun ys hy => by rw [I.tuple_inj hy hq]; exact hx⟩, ⟨⟨u', ?_⟩, st'.1.at fun o q => (sb.2 it (Ne.symm hne)).trans q⟩, fun b hb => ?_⟩
    · have e1 : ((i + 1 : Nat) : Int) = (i : Int) + 1 := by omega
      rw [e1]; exact he'
    · have hb' : b < s.heap.objs.size := by
        have e' : b = e ∨ b = it := by simpa using hb
        rcases e' with z | z
        · rw [z]; exact hel
        · rw [z]; exact hil
      rw [upd_ne (Nat.ne_of_lt hb')]
      exact (hf b hb).1
  done := by
    intro X hP hw hK hc i pins s σ H E I hf st hg
    subst hP hw hK
    obtain ⟨⟨old, he⟩, hit⟩ := st
    obtain ⟨xs, hq, hx⟩ := hg
    obtain ⟨its, rv, p, hz⟩ := I.tuple hq
    obtain ⟨f0, f1, f2, f3, f4, f5⟩ := hf it (by simp)
    have hl := rv.length
    have hh : X.A.in1.handled = none := I.ok.hd hc
    have D : Draws X.prog X.w X.A.in1 it [it, a] i (fun _ _ => True) (fun j h => j = i ∧ h.IsTupleIter it a j ∧ h.IsTuple a its.toArray) :=
      { live := fun _ _ st => let ⟨o, ho, _⟩ := st.2.1; ⟨o, ho⟩
        frame := fun _ _ _ st hk => ⟨st.1, st.2.1.at fun o e => hk it (by simp) o e, st.2.2.at fun o e => hk a (by simp) o e⟩
        item := fun j s Q E hj st hQ => absurd st.1 (by omega)
        done := fun s Q E st hE => wpAny_nextOf_tuple_end hh st.2.1 st.2.2 (by simp; omega) hE }
    exact wpAny_pyNext_enum_endD D he ⟨rfl, hit, p⟩ fun h' eb => ⟨rfl, I.turned (t' := s.toks) (fun b o hb q => eb b o hb q) f0 f1 f3 f4 f5⟩
  self := fun A i s Q E st h => let ⟨⟨_, he⟩, _⟩ := st; wpAny_pyIter_enum he h
def iEnumT (K : PySem.W.Frag) (ta : TA) : TI := fun σ H R => ta σ H fun vs H1 => ∃ a xs, vs = [.ref a] ∧ ((SqL K H1 a xs ∧ R (Ite K a) H1) ∨ (SqT K H1 a xs ∧ R (IteT K a) H1))
theorem pi_enumA {X : Cx} {e : Expr} {ta : TA} {p pos tpos : Pos} {elts : List Expr} {kk : Nat} (hg : Gl X "enumerate") (hm : X.mg "enumerate" = none) (ha : PA X [e] ta) (hs : starEach [e] X.env = [(false, eval e X.env)] := by rfl) :
    PI X (.Tuple elts kk tpos) (.Call (.Name "enumerate" p) [e] [] pos) (iEnumT X.K ta) := by
  refine ⟨fun pins s σ H R I h => ?_⟩
  refine Call_ (ld_blt I hg hm boot_enumerate (PyProof.Rows.callWith_type1 (thn (ha.run pos pins s σ H _ I h) fun us s1 ⟨vs, H1, I1, r1, q1⟩ => ?_) hs rfl))
  obtain ⟨a, xs, ex, q⟩ := q1
  subst ex
  cases r1 with
  | cons r rr =>
    cases rr
    cases r
    have fresh2 : ∀ b, b ∈ [s1.heap.objs.size + 1, s1.heap.objs.size] → FpOk X pins H1 b := fun b hb => by
      have e' : b = s1.heap.objs.size + 1 ∨ b = s1.heap.objs.size := by simpa using hb
      have hle : s1.heap.objs.size ≤ b := by
        rcases e' with z | z
        · rw [z]; exact Nat.le_add_right _ _
        · rw [z]; exact Nat.le_refl _
      exact I1.fpOk hle (I1.hok.fresh hle)
    rcases q with ⟨hq, q⟩ | ⟨hq, q⟩
    · obtain ⟨its, rv, p', hz⟩ := I1.list hq
      refine call_enumerate_list p'.isList fun h' he hit hsz hk => wpAny_pyIter_enum he ?_
      have I2 : Inv X pins σ H1 { s1 with heap := h' } := I1.kept (t' := s1.toks) hk
      exact ⟨s1.heap.objs.size + 1, [s1.heap.objs.size + 1, s1.heap.objs.size], _, _, H1, rfl, I2, turn_enum a (s1.heap.objs.size + 1) s1.heap.objs.size, ⟨⟨.none, he⟩, hit, Nat.succ_ne_self _⟩, fresh2, q⟩
    · obtain ⟨its, rv, p', hz⟩ := I1.tuple hq
      obtain ⟨o1, ho1, _⟩ := id p'
      have la : a < s1.heap.objs.size := Heap.lt_size ho1
      refine call_enumV (begins_tuple a its.toArray) p' fun h' he hit hsz hk => wpAny_pyIter_enum he ?_
      have I2 : Inv X pins σ H1 { s1 with heap := h' } := I1.kept (t' := s1.toks) hk
      exact ⟨s1.heap.objs.size + 1, [s1.heap.objs.size + 1, s1.heap.objs.size], _, _, H1, rfl, I2, turn_enumT a (s1.heap.objs.size + 1) s1.heap.objs.size (Nat.ne_of_gt (Nat.lt_succ_of_lt la)) (Nat.ne_of_lt la) (Nat.succ_ne_self _), ⟨⟨.none, he⟩, ⟨_, hit, rfl, rfl⟩⟩, fresh2, q⟩
/-- the tuple at a, the list at b, the items in new pairs -/
def ItzM (K : PySem.W.Frag) (a b : Addr) : It :=
  ⟨fun i H => ∃ (xs ys : List V) (x y : V), SqT K H a xs ∧ SqL K H b ys ∧ xs[i]? = some x ∧ ys[i]? = some y,
    fun i H v H' => ∃ T x y, v = .ref T ∧ H T = none ∧ H' = upd H T (.tup [x, y]) ∧ (∀ xs, SqT K H a xs → xs[i]? = some x) ∧ ∀ ys, SqL K H b ys → ys[i]? = some y,
    fun i H => ∃ xs ys : List V, SqT K H a xs ∧ SqL K H b ys ∧ (xs.length ≤ i ∨ ys.length ≤ i)⟩
theorem sep_of {a b z TI TO i1 i2 : Addr} (D : ZipApart z TI TO i1 i2 a b) : ZipSep2 z TI TO i1 i2 [i1, a] [i2, b] where
  TIz := D.TIz
  TOz := D.TOz
  TITO := D.TITO
  TIi1 := D.TIi1
  mem1 := by simp
  zf1 := by simp [D.i1z.symm, D.l1z.symm]
  Tf1 := by simp [D.TOi1, D.l1TO.symm]
  TIi2 := D.TIi2
  mem2 := by simp
  zf2 := by simp [D.i2z.symm, D.l2z.symm]
  Tf2 := by simp [D.TOi2, D.l2TO.symm]
  sep1_2 := by simp [D.i12, D.l2i1.symm]
  sep2_1 := by simp [D.i12.symm, D.l1i2.symm]
theorem turn_zipM {P : Program} {w : World} {K : PySem.W.Frag} {elts : List Expr} {kk : Nat} {tpos : Pos} {a b z TI TO i1 i2 : Addr} (D : ZipApart z TI TO i1 i2 a b) :
    Turn P w K (.Tuple elts kk tpos) (ItzM K a b) [z, TI, TO, i1, i2] z (fun i h => IsZip h z TI TO .none ∧ IsPair h TI (.ref i1) (.ref i2) ∧ (∃ x y, IsPair h TO x y) ∧ h.IsTupleIter i1 a i ∧ h.IsListIter i2 b i) where
  mem := by simp
  obj := fun i h st c hc => by
    obtain ⟨hz, hTI, ⟨x, y, hTO⟩, ⟨o1, e1, _, d1⟩, ⟨o2, e2, _, d2⟩⟩ := st
    have e' : c = z ∨ c = TI ∨ c = TO ∨ c = i1 ∨ c = i2 := by simpa using hc
    rcases e' with q | q | q | q | q
    · rw [q]; exact ⟨_, hz, fun v q => nomatch q⟩
    · rw [q]; exact ⟨_, hTI, fun v q => nomatch q⟩
    · rw [q]; exact ⟨_, hTO, fun v q => nomatch q⟩
    · rw [q]; exact ⟨o1, e1, fun v q => by rw [d1] at q; cases q⟩
    · rw [q]; exact ⟨o2, e2, fun v q => by rw [d2] at q; cases q⟩
  keep := fun i h h' st k => by
    obtain ⟨hz, hTI, ⟨x, y, hTO⟩, h1, h2⟩ := st
    exact ⟨k z (by simp) _ hz, k TI (by simp) _ hTI, ⟨x, y, k TO (by simp) _ hTO⟩, h1.at fun o q => k i1 (by simp) o q, h2.at fun o q => k i2 (by simp) o q⟩
  item := by
    intro X hP hw hK hc i pins s σ H E I hf st hg
    subst hP hw hK
    obtain ⟨hz, hTI, ⟨x0, y0, hTO⟩, h1, h2⟩ := st
    obtain ⟨xs, ys, x, y, hqx, hqy, hx, hy⟩ := hg
    obtain ⟨its, rv, p, _⟩ := I.tuple hqx
    obtain ⟨its2, rv2, p2, _⟩ := I.list hqy
    obtain ⟨u, hu, ru⟩ := rv.get hx
    obtain ⟨u2, hu2, ru2⟩ := rv2.get hy
    have hzl : z < s.heap.objs.size := Heap.lt_size hz
    have hh : X.A.in1.handled = none := I.ok.hd hc
    have lt1 : i < its.toArray.size := by have := (List.getElem?_eq_some_iff.mp hu).1; simpa using this
    have lt2 : i < its2.toArray.size := by have := (List.getElem?_eq_some_iff.mp hu2).1; simpa using this
    refine wpAny_pyNext_zipD2_item (sep_of D) (Draws.tuple hh i1 a D.l1i1 its.toArray) (Draws.list hh i2 b D.l2i2 its2.toArray) hz hTI hTO ⟨h1, p⟩ ⟨h2, p2.isList⟩ lt1 lt2 fun v1 v2 h' tk e1 e2 z' TO' s1' s2' hT hsz hk => ?_
    have q1 : v1 = u := by
      have e1 : its.toArray[i]? = some v1 := e1
      have : its.toArray[i]? = some u := by simpa using hu
      rw [this] at e1; exact (Option.some.inj e1).symm
    have q2 : v2 = u2 := by
      have e2 : its2.toArray[i]? = some v2 := e2
      have : its2.toArray[i]? = some u2 := by simpa using hu2
      rw [this] at e2; exact (Option.some.inj e2).symm
    subst q1 q2
    refine ⟨_, rfl, wpAny_letOwnedTupleGo_zip (s := { s with heap := h', toks := tk }) z' fun h'' z'' sb => ?_⟩
    have hT2 : h''.get? s.heap.objs.size = some { cls := .type "tuple", data := .seq #[v1, v2] } := (sb.2 _ (Nat.ne_of_gt hzl)).trans hT
    have new : ObjOk X.prog X.w (upd H s.heap.objs.size (.tup [x, y])) h'' s.heap.objs.size (.tup [x, y]) :=
      ⟨by show 2 ≤ sizeLine; decide, [v1, v2], .cons ru (.cons ru2 .nil), ⟨_, hT2, rfl, _, rfl⟩⟩
    have I1 : Inv X pins σ (upd H s.heap.objs.size (.tup [x, y])) { s with heap := h'', toks := tk } :=
      I.turnedNew (t' := tk) (ch := [z, TI, TO, i1, i2]) (fun c o hb q => (sb.2 c (fun q' => hb (by simp [q']))).trans (hk c o (fun q' => hb (by simp [q'])) (fun q' => hb (by simp [q'])) (fun q' => hb (by simp [q'])) (fun q' => hb (by simp [q'])) q)) hf (Nat.le_refl _) new
    refine ⟨.ref s.heap.objs.size, _, I1, rfl, ⟨_, x, y, rfl, I.hok.fresh (Nat.le_refl _), rfl, fun l hl => by rw [I.tuple_inj hl hqx]; exact hx, fun l hl => by rw [I.list_inj hl hqy]; exact hy⟩, ⟨z'', ?_, ⟨v1, v2, ?_⟩, ?_, ?_⟩, fun c hcm => ?_⟩
    · exact (sb.2 _ D.TIz).trans (hk _ _ D.TIz D.TITO D.TIi1 D.TIi2 hTI)
    · exact (sb.2 _ D.TOz).trans TO'
    · exact s1'.1.at fun o q => (sb.2 _ D.i1z).trans q
    · exact s2'.1.at fun o q => (sb.2 _ D.i2z).trans q
    · have hlt : c < s.heap.objs.size := by
        have e' : c = z ∨ c = TI ∨ c = TO ∨ c = i1 ∨ c = i2 := by simpa using hcm
        rcases e' with q | q | q | q | q
        · rw [q]; exact hzl
        · rw [q]; exact Heap.lt_size hTI
        · rw [q]; exact Heap.lt_size hTO
        · rw [q]; obtain ⟨_, e1, _⟩ := h1; exact Heap.lt_size e1
        · rw [q]; obtain ⟨_, e2, _⟩ := h2; exact Heap.lt_size e2
      rw [upd_ne (Nat.ne_of_lt hlt)]
      exact (hf c hcm).1
  done := by
    intro X hP hw hK hc i pins s σ H E I hf st hg
    subst hP hw hK
    obtain ⟨hz, hTI, ⟨x0, y0, hTO⟩, h1, h2⟩ := st
    obtain ⟨xs, ys, hqx, hqy, hend⟩ := hg
    obtain ⟨its, rv, p, _⟩ := I.tuple hqx
    obtain ⟨its2, rv2, p2, _⟩ := I.list hqy
    have l1 := rv.length
    have l2 := rv2.length
    have hh : X.A.in1.handled = none := I.ok.hd hc
    have fin : ∀ {h' : Heap} {tk : Tok}, (∀ c o, c ≠ z → c ≠ TO → c ≠ i1 → c ≠ i2 → s.heap.get? c = some o → h'.get? c = some o) → (none : Option Value) = none ∧ Inv X pins σ H { s with heap := h', toks := tk } := fun {h' tk} hk =>
      ⟨rfl, I.turnedL (t' := tk) (ch := [z, TI, TO, i1, i2]) (fun c o hb q => hk c o (fun q' => hb (by simp [q'])) (fun q' => hb (by simp [q'])) (fun q' => hb (by simp [q'])) (fun q' => hb (by simp [q'])) q) hf⟩
    by_cases e1 : xs.length ≤ i
    · have D1 : Draws X.prog X.w X.A.in1 i1 [i1, a] i (fun _ _ => True) (fun j h => j = i ∧ h.IsTupleIter i1 a j ∧ h.IsTuple a its.toArray) :=
        { live := fun _ _ st => let ⟨o, ho, _⟩ := st.2.1; ⟨o, ho⟩
          frame := fun _ _ _ st hk => ⟨st.1, st.2.1.at fun o e => hk i1 (by simp) o e, st.2.2.at fun o e => hk a (by simp) o e⟩
          item := fun j s Q E hj st hQ => absurd st.1 (by omega)
          done := fun s Q E st hE => wpAny_nextOf_tuple_end hh st.2.1 st.2.2 (by simp; omega) hE }
      by_cases e2 : i < its2.toArray.size
      · exact wpAny_pyNext_zipD2_end (sep_of D) D1 (Draws.list hh i2 b D.l2i2 its2.toArray) hz hTI hTO ⟨rfl, h1, p⟩ ⟨h2, p2.isList⟩ (Nat.le_refl _) (by omega) (.inl rfl) fun h' tk hk => fin hk
      · have D2 : Draws X.prog X.w X.A.in1 i2 [i2, b] i (fun _ _ => True) (fun j h => j = i ∧ h.IsListIter i2 b j ∧ h.IsList b its2.toArray) :=
          { live := fun _ _ st => let ⟨o, ho, _⟩ := st.2.1; ⟨o, ho⟩
            frame := fun _ _ _ st hk => ⟨st.1, st.2.1.at fun o e => hk i2 (by simp) o e, st.2.2.at fun o e => hk b (by simp) o e⟩
            item := fun j s Q E hj st hQ => absurd st.1 (by omega)
            done := fun s Q E st hE => wpAny_nextOf_list_end hh st.2.1 st.2.2 (by have := e2; simp at this ⊢; omega) hE }
        exact wpAny_pyNext_zipD2_end (sep_of D) D1 D2 hz hTI hTO ⟨rfl, h1, p⟩ ⟨rfl, h2, p2.isList⟩ (Nat.le_refl _) (Nat.le_refl _) (.inl rfl) fun h' tk hk => fin hk
    · have e2 : ys.length ≤ i := by rcases hend with h | h <;> omega
      have D2 : Draws X.prog X.w X.A.in1 i2 [i2, b] i (fun _ _ => True) (fun j h => j = i ∧ h.IsListIter i2 b j ∧ h.IsList b its2.toArray) :=
        { live := fun _ _ st => let ⟨o, ho, _⟩ := st.2.1; ⟨o, ho⟩
          frame := fun _ _ _ st hk => ⟨st.1, st.2.1.at fun o e => hk i2 (by simp) o e, st.2.2.at fun o e => hk b (by simp) o e⟩
          item := fun j s Q E hj st hQ => absurd st.1 (by omega)
          done := fun s Q E st hE => wpAny_nextOf_list_end hh st.2.1 st.2.2 (by simp; omega) hE }
      exact wpAny_pyNext_zipD2_end (sep_of D) (Draws.tuple hh i1 a D.l1i1 its.toArray) D2 hz hTI hTO ⟨h1, p⟩ ⟨rfl, h2, p2.isList⟩ (by simp; omega) (Nat.le_refl _) (.inr rfl) fun h' tk hk => fin hk
  self := fun A i s Q E st h => wpAny_pyIter_zip st.1 h
def iZipM (K : PySem.W.Frag) (ta : TA) : TI := fun σ H R => ta σ H fun vs H1 => ∃ a b xs ys, vs = [.ref a, .ref b] ∧ SqT K H1 a xs ∧ SqL K H1 b ys ∧ R (ItzM K a b) H1
theorem pi_zipM {X : Cx} {e e2 : Expr} {ta : TA} {p pos tpos : Pos} {elts : List Expr} {kk : Nat} (hg : Gl X "zip") (hm : X.mg "zip" = none) (ha : PA X [e, e2] ta)
    (hs : starEach [e, e2] X.env = (false, eval e X.env) :: starEach [e2] X.env := by rfl) (hpl : (backTo pos (starEach [e2] X.env)).any (·.1) = false := by rfl) :
    PI X (.Tuple elts kk tpos) (.Call (.Name "zip" p) [e, e2] [] pos) (iZipM X.K ta) := by
  refine ⟨fun pins s σ H R I h => ?_⟩
  refine Call_ (ld_blt I hg hm PyProof.Rows.boot_zip (PyProof.Rows.callWith_type1 (thn (ha.run pos pins s σ H _ I h) fun us s1 ⟨vs, H1, I1, r1, q1⟩ => ?_) hs hpl))
  obtain ⟨a, b, xs, ys, ex, hqx, hqy, q⟩ := q1
  subst ex
  cases r1 with
  | cons r rr =>
    cases rr with
    | cons r' rr =>
      cases rr
      cases r
      cases r'
      obtain ⟨its, rv, p1, _⟩ := I1.tuple hqx
      obtain ⟨its2, rv2, p2, _⟩ := I1.list hqy
      obtain ⟨o1, ho1, _⟩ := id p1
      have la : a < s1.heap.objs.size := Heap.lt_size ho1
      have lb : b < s1.heap.objs.size := p2.lt
      refine zip_begins2 (begins_tuple a its.toArray) (begins_list b its2.toArray) p1 p2.isList fun h' hz hTI hTO h1 h2 hsz hk => wpAny_pyIter_zip hz ?_
      have I2 : Inv X pins σ H1 { s1 with heap := h' } := I1.kept (t' := s1.toks) hk
      refine ⟨s1.heap.objs.size + 4, [s1.heap.objs.size + 4, s1.heap.objs.size + 2, s1.heap.objs.size + 3, s1.heap.objs.size, s1.heap.objs.size + 1], _, _, H1, rfl, I2, turn_zipM (PySem.W.ktu_apart s1.heap.objs.size a b la lb), ⟨hz, hTI, ⟨_, _, hTO⟩, ⟨_, h1, rfl, rfl⟩, ⟨_, h2, rfl, rfl⟩⟩, fun c hcm => ?_, q⟩
      have e' : c = s1.heap.objs.size + 4 ∨ c = s1.heap.objs.size + 2 ∨ c = s1.heap.objs.size + 3 ∨ c = s1.heap.objs.size ∨ c = s1.heap.objs.size + 1 := by simpa using hcm
      have hle : s1.heap.objs.size ≤ c := by
        rcases e' with z | z | z | z | z
        · rw [z]; exact Nat.le_add_right _ _
        · rw [z]; exact Nat.le_add_right _ _
        · rw [z]; exact Nat.le_add_right _ _
        · rw [z]; exact Nat.le_refl _
        · rw [z]; exact Nat.le_add_right _ _
      exact I1.fpOk hle (I1.hok.fresh hle)
/-! ### in the reading -/
noncomputable section
variable {X : Cx} {C : MC} {E : XK} {a b : Expr} {mr : Ax} {pos tpos : Pos}
theorem iteT_rel {H : Hp} {ρ : Pl} {st : Sto} {a : Addr} {vs : List V} {ws : List W} (S : RelS C H ρ st) (k : SqT C.K H a vs) (l : RepL C.K H ρ st vs ws) : ItRel C (IteT C.K a) H ρ st (.st (ws.zipIdx.map fun p => enG p.2 p.1)) := by
  intro H' ρ' st' ev S' i o ho
  have k' := SqT.evo ev S.liv k
  have l' := l.evo ev S.liv
  cases ho
  simp only [List.getElem?_map, List.getElem?_zipIdx, Option.map_map]
  cases ei : ws[i]? with
  | none => exact ⟨vs, k', by rw [l'.length]; exact List.getElem?_eq_none_iff.mp ei⟩
  | some x =>
    obtain ⟨v, hv, rv⟩ := l'.get ei
    refine ⟨⟨vs, v, k', hv⟩, fun y H'' hy => ?_⟩
    obtain ⟨T, v', ez, hT, eH, h1⟩ := hy
    have e1 := h1 vs k'
    rw [hv] at e1; cases e1
    rw [ez, eH]
    have q := yld2 (C := C) S' hT (.int (i : Int)) rv
    simpa [enG] using q
def enJ (m : Ax) : Ix := fun env st => (m env st).bind fun ws s => match ws with
  | [.tup xs] => .ok (.st (xs.zipIdx.map fun p => enG p.2 p.1)) s
  | [w] => match srcL enG w s with
    | some src => .ok src s
    | none => .no
  | _ => .no
theorem mi_enumA {p : Pos} {elts : List Expr} {kk : Nat} (hK : C.K = X.K) (hg : Gl X "enumerate") (hm : X.mg "enumerate" = none) (ha : MA' X C E [a] mr) (hs : starEach [a] X.env = [(false, eval a X.env)] := by rfl) :
    MI X C E (.Tuple elts kk tpos) (.Call (.Name "enumerate" p) [a] [] pos) (enJ mr) := by
  refine PI.imp (pi_enumA hg hm ha.pa hs) fun σ H R ⟨ρ, st, env, re, S, p⟩ => ⟨ρ, st, env, re, S, Post.bind (rel := relWs C) p fun ws s1 H1 ρ1 vs hw e1 S1 r1 p1 => ?_⟩
  rw [← hK]
  split at p1
  · obtain ⟨v, rfl, q1⟩ := r1.one
    cases q1 with
    | tup k1 l1 => exact ⟨_, _, rfl, .inr ⟨k1, p1 H1 ρ1 _ (Evo.refl ..) S1 (iteT_rel S1 k1 l1)⟩⟩
  · obtain ⟨v, rfl, q1⟩ := r1.one
    split at p1
    · rename_i src e0
      obtain ⟨ws, ek⟩ := srcL_lst e0
      obtain ⟨a, vs, rfl, q, r⟩ := lstK_rep S1 q1 ek
      exact ⟨a, vs, rfl, .inl ⟨q, p1 H1 ρ1 _ (Evo.refl ..) S1 (ite_rel (s := s1) S1 q1 fun st' i o ho => srcL_at e0 ho)⟩⟩
    · exact p1.elim
  · exact p1.elim
theorem itzM_rel {H : Hp} {ρ : Pl} {st s : Sto} {a b : Addr} {vs : List V} {xs : List W} {y : W} {src : Src} (S : RelS C H ρ st) (k1 : SqT C.K H a vs) (l1 : RepL C.K H ρ st vs xs) (r2 : Rep C.K H ρ st (.ref b) y)
    (h : ∀ st' i o, src.at i st' = some o → ∃ ys, lstK st' y = some ys ∧ o = (zipW xs ys)[i]?) : ItRel C (ItzM C.K a b) H ρ st src := by
  intro H' ρ' st' ev S' i o ho
  have k1' := SqT.evo ev S.liv k1
  have l1' := l1.evo ev S.liv
  have r2' := r2.evo ev S.liv
  obtain ⟨ys, ey, eo⟩ := h _ _ _ ho
  obtain ⟨b', us, eb, k2, l2⟩ := lstK_rep S' r2' ey
  cases eb
  subst eo
  rcases zipW_at xs ys i with ⟨x, y, hz, hx, hy⟩ | ⟨hz, hl⟩
  · rw [hz]
    obtain ⟨v, hv, rv⟩ := l1'.get hx
    obtain ⟨u, hu, ru⟩ := l2.get hy
    refine ⟨⟨vs, us, v, u, k1', k2, hv, hu⟩, fun z H'' hy => ?_⟩
    obtain ⟨T, v', u', ez, hT, eH, h1, h2⟩ := hy
    have e1 := h1 vs k1'
    have e2 := h2 us k2
    rw [hv] at e1; cases e1
    rw [hu] at e2; cases e2
    rw [ez, eH]
    exact yld2 S' hT rv ru
  · rw [hz]
    exact ⟨vs, us, k1', k2, by rw [l1'.length, l2.length]; exact hl⟩
/-- zip of a tuple and a list -/
def zmI (m : Ax) : Ix := fun env st => (m env st).bind fun ws s => match ws with
  | [.tup xs, y] => match lstK s y with
    | some ys => if valW y = true then .ok (.st (zipW xs ys)) s else .ok (.dy (xs.length + 1) fun i st' => match lstK st' y with
      | some ys => some ((zipW xs ys)[i]?)
      | none => none) s
    | none => .no
  | _ => .no
theorem mi_zipM {p : Pos} {elts : List Expr} {kk : Nat} (hK : C.K = X.K) (hg : Gl X "zip") (hm : X.mg "zip" = none) (ha : MA' X C E [a, b] mr)
    (hs : starEach [a, b] X.env = (false, eval a X.env) :: starEach [b] X.env := by rfl) (hpl : (backTo pos (starEach [b] X.env)).any (·.1) = false := by rfl) :
    MI X C E (.Tuple elts kk tpos) (.Call (.Name "zip" p) [a, b] [] pos) (zmI mr) := by
  refine PI.imp (pi_zipM hg hm ha.pa hs hpl) fun σ H R ⟨ρ, st, env, re, S, p⟩ => ⟨ρ, st, env, re, S, Post.bind (rel := relWs C) p fun ws s1 H1 ρ1 vs hw e1 S1 r1 p1 => ?_⟩
  rw [← hK]
  split at p1
  · obtain ⟨v, u, rfl, q1, q2⟩ := r1.two
    cases q1 with
    | tup k1 l1 =>
      split at p1
      · rename_i xs y ys hy
        obtain ⟨b, us, rfl, k2, l2⟩ := lstK_rep S1 q2 hy
        split at p1
        · rename_i hv
          refine ⟨_, _, _, _, rfl, k1, k2, p1 H1 ρ1 _ (Evo.refl ..) S1 (itzM_rel (s := s1) S1 k1 l1 q2 fun st' i o ho => ⟨ys, ?_, ?_⟩)⟩
          · rw [valW_lst hv st' s1, hy]
          · cases ho; rfl
        · refine ⟨_, _, _, _, rfl, k1, k2, p1 H1 ρ1 _ (Evo.refl ..) S1 (itzM_rel (s := s1) S1 k1 l1 q2 fun st' i o ho => ?_)⟩
          simp only [Src.at] at ho
          split at ho
          · rename_i ys' e1
            cases ho
            exact ⟨ys', e1, rfl⟩
          · cases ho
      · exact p1.elim
  · exact p1.elim
theorem zmI_fl {m : Ax} {env : En} {s0 st : Sto} {xs ys : List W} (h : m env s0 = .ok [.tup xs, .fl ys] st) : zmI m env s0 = .ok (.st (zipW xs ys)) st := by
  simp [zmI, h, lstK, lstOf, valW]
theorem enJ_tup {m : Ax} {env : En} {s0 st : Sto} {xs : List W} (h : m env s0 = .ok [.tup xs] st) : enJ m env s0 = .ok (.st (xs.zipIdx.map fun p => enG p.2 p.1)) st := by
  simp [enJ, h]
end
end ML

/-! ML17: tuple + tuple and slices of tuples, of any kind -/
namespace ML
open PySem L2
noncomputable section
variable {X : Cx} {C : MC} {E : XK}
def addAW (x y : W) (s : Sto) : R W := match x, y with
  | .tup xs, .tup ys => if ck (xs.length + ys.length ≤ 10000000) = true then .ok (.tup (xs ++ ys)) s else .no
  | x, y => addW x y s
def rAddA (K : PySem.W.Frag) : R2 := fun x y H Q => (rI0 (fun i j => .int (i + j)) x y H Q ∨ (∃ i j, x = .str i ∧ y = .str j ∧ i.length + j.length ≤ sizeLine ∧ Q (.str (i ++ j)) H)) ∨ (rCatA K x y H Q ∨ rCat x y H Q)
theorem or_addA : OpR X (binaryOp .Add) (rAddA X.K) := (op_add.or op_add_str).or (op_catA.or op_cat)
theorem om_addA : OpM C E (rAddA C.K) addAW := by
  intro H ρ st v u x y Q S rx ry p
  unfold addAW at p
  split at p
  · cases rx with
    | tup h1 h2 =>
      cases ry with
      | tup h3 h4 =>
        split at p
        · rename_i xs ys h
          have nn : ∀ {us : List V} {ws : List W}, RepL C.K H ρ st us ws → (us = [] ↔ ws = []) := fun r => by cases r <;> simp
          refine .inr (.inl ⟨_, _, _, _, rfl, rfl, h1, h3, by rw [h2.length, h4.length]; exact szL (ck_iff.mp h), fun z => ?_, fun z0 z => ?_, fun z0 z q hq => ?_⟩)
          · refine p H ρ _ (Evo.refl ..) S (.tup h3 ?_)
            rw [(nn h2).mp z, List.nil_append]
            exact h4
          · refine p H ρ _ (Evo.refl ..) S (.tup h1 ?_)
            rw [(nn h4).mp z, List.append_nil]
            exact h2
          · exact p _ ρ _ (Evo.laid hq) (S.laid hq) (tup_new S hq (h2.append h4))
        · exact p.elim
  · rcases om_add H ρ st v u x y Q S rx ry p with h | h | h
    · exact .inl h
    · obtain ⟨a, b, xs, ys, rfl, rfl, ha, hb, hx, hz, q1, q2⟩ := h
      exact .inr (.inl ⟨a, b, xs, ys, rfl, rfl, ha, hb, hz, fun z => absurd z hx, fun _ z => q1 z, fun _ z => q2 z⟩)
    · exact .inr (.inr h)
def slAF (x : W) (lo hi : Option Int) (s : Sto) : R W := match x with
  | .tup ws => .ok (.tup (cutL ws lo hi)) s
  | x => slF x lo hi s
def rSlAU (K : PySem.W.Frag) : V → Option Int → Option Int → Hp → VK → Prop := fun x lo hi H Q => rSlL K x lo hi H Q ∨ rSlA K x lo hi H Q
theorem or_slA : SlR X (rSlAU X.K) := sl_list.or sl_tupA
theorem cut_whole {α : Type} {xs : List α} {lo hi : Option Int} (h : HT.sIx xs.length 0 lo = 0 ∧ HT.sIx xs.length xs.length hi = xs.length) : cutL xs lo hi = xs := by
  unfold cutL
  rw [h.1, h.2]; simp
theorem sm_slA : SlM C E (rSlAU C.K) slAF := by
  intro H ρ st v x lo hi Q S rx p
  unfold slAF at p
  split at p
  · cases rx with
    | tup h1 h2 =>
      refine .inr ⟨_, _, rfl, h1, fun z => ?_, fun z q hq => p _ ρ _ (Evo.laid hq) (S.laid hq) (tup_new S hq (cutL_rep h2 lo hi))⟩
      rw [h2.length] at z
      rw [cut_whole z] at p
      exact p H ρ _ (Evo.refl ..) S (.tup h1 h2)
  · rcases sm_sl H ρ st v x lo hi Q S rx p with h | h
    · exact .inl h
    · obtain ⟨a, xs, rfl, hx, hw, q⟩ := h
      exact .inr ⟨a, xs, rfl, hx, fun z => absurd z hw, fun _ => q⟩
theorem me_slA {a : Expr} {ma : Ex} {pos : Pos} {lo hi : Option Expr} {ml mh : Ox} {p2 : Pos} {f : W → Option Int → Option Int → Sto → R W} (hK : C.K = X.K) (hf : SlM C E (rSlAU C.K) f) (ha : ME X C E a ma) (hl : MO X C E lo ml) (hh : MO X C E hi mh) : ME X C E (.Subscript a (.Slice lo hi none p2) pos) (slE f ma ml mh) := by
  refine PE.imp (pe_slice or_slA ha hl hh) fun σ H Q ⟨ρ, st, env, re, S, p⟩ => ⟨ρ, st, env, re, S, Post.bind p fun x s1 H1 ρ1 v _ e1 S1 r1 p1 => ?_⟩
  have re1 := re.evo e1 S.liv
  refine ⟨ρ1, s1, env, re1, S1, Post.bind (rel := relI) p1 fun l s2 H2 ρ2 vl _ e2 S2 r2 p2 => ?_⟩
  refine ⟨ρ2, s2, env, re1.evo e2 S1.liv, S2, Post.bind (rel := relI) p2 fun h s3 H3 ρ3 vh _ e3 S3 r3 p3 => ?_⟩
  have r2 : vl = l := r2
  have r3 : vh = h := r3
  subst r2; subst r3
  rw [← hK]
  exact hf H3 ρ3 s3 v x vl vh Q S3 ((r1.evo e2 S1.liv).evo e3 S2.liv) p3
theorem addA_tup {xs ys : List W} {s : Sto} (h : xs.length + ys.length ≤ 10000000) : addAW (.tup xs) (.tup ys) s = .ok (.tup (xs ++ ys)) s := by simp [addAW, h]
theorem slA_tup (xs : List W) (lo hi : Option Int) (s : Sto) : slAF (.tup xs) lo hi s = .ok (.tup (cutL xs lo hi)) s := rfl
end
end ML

/-! LA8: borders -/
namespace LA
open PySem L2 ML
noncomputable section
def sepOf (b : Bool) (c w h : Int) (k : Nat) (o : Int) : List Box := if k = 0 then [] else [if b then (45, o - 1, c, w, 1) else (124, c, o - 1, 1, h)]
def Lay.borders : Lay → Int → Int → Int → Int → List Box
  | .pane _, _, _, _, _ => []
  | .node b ps, r, c, w, h => (((ps.attach.zip (offs (if b then r else c) ps)).zipIdx.map fun y => sepOf b (if b then c else r) w h y.2 y.1.2 ++ if b then y.1.1.1.1.borders y.1.2 c w y.1.1.1.2 else y.1.1.1.1.borders r y.1.2 y.1.1.1.2 h)).flatten
termination_by L => sizeOf L
decreasing_by all_goals exact Lay.mem_lt y.1.1.2
theorem borders_pane (p r c w h : Int) : (Lay.pane p).borders r c w h = [] := by rw [Lay.borders]
def bordersL (b : Bool) (c w h : Int) : Nat → Int → List Part → List Box
  | _, _, [] => []
  | k, o, x :: xs => (sepOf b c w h k o ++ if b then x.1.borders o c w x.2 else x.1.borders c o x.2 h) ++ bordersL b c w h (k + 1) (o + x.2 + 1) xs
theorem borders_node (b : Bool) (ps : List Part) (r c w h : Int) : (Lay.node b ps).borders r c w h = bordersL b (if b then c else r) w h 0 (if b then r else c) ps := by
  rw [Lay.borders]
  have key : ∀ (ss : List Int) (f : Part → Int → Nat → List Box), ((ps.attach.zip ss).zipIdx.map fun y => f y.1.1.1 y.1.2 y.2) = (ps.zip ss).zipIdx.map fun y => f y.1.1 y.1.2 y.2 := by
    intro ss f
    conv => rhs; rw [← List.attach_map_subtype_val ps, List.zip_map_left, List.zipIdx_map, List.map_map]
    rfl
  have k2 := key (offs (if b then r else c) ps) fun x s k => sepOf b (if b then c else r) w h k s ++ if b then x.1.borders s c w x.2 else x.1.borders r s x.2 h
  rw [k2]
  clear key k2
  generalize (if b then r else c) = o
  generalize 0 = k
  induction ps generalizing o k with
  | nil => rfl
  | cons x xs ih =>
    simp only [offs, List.zip_cons_cons, List.zipIdx_cons, List.map_cons, List.flatten_cons, bordersL, ih]
    cases b <;> rfl
theorem bordersL_len {b : Bool} {c w h : Int} : ∀ (ps : List Part) (k : Nat) (o : Int), (∀ x ∈ ps, ∀ r c w h, (x.1.borders r c w h).length + 1 ≤ x.1.panes.length) → (k = 0 → ps ≠ []) →
    (bordersL b c w h k o ps).length + (if k = 0 then 1 else 0) ≤ (ps.flatMap fun x => x.1.panes).length
  | [], k, o, _, hk => by
    by_cases h : k = 0
    · exact absurd rfl (hk h)
    · simp [bordersL, h]
  | x :: xs, k, o, hx, hk => by
    have h2 := bordersL_len (b := b) (c := c) (w := w) (h := h) xs (k + 1) (o + x.2 + 1) (fun y hy => hx y (by simp [hy])) (fun e => by omega)
    rw [if_neg (show ¬ (k + 1 = 0) by omega)] at h2
    have h3 : (if b then x.1.borders o c w x.2 else x.1.borders c o x.2 h).length + 1 ≤ x.1.panes.length := by
      cases b
      · exact hx x (by simp) ..
      · exact hx x (by simp) ..
    have h4 : (sepOf b c w h k o).length + (if k = 0 then 1 else 0) ≤ 1 := by unfold sepOf; split <;> simp
    unfold bordersL
    simp only [List.length_append, List.flatMap_cons] at h2 ⊢
    omega
theorem borders_len {B : Int} {L : Lay} (h : Ok B L) : ∀ r c w k : Int, (L.borders r c w k).length + 1 ≤ L.panes.length := by
  induction h with
  | pane p => intro r c w k; rw [borders_pane, panes_pane]; exact Nat.le_refl _
  | @node b ps two sz alt sub ih =>
    intro r c w k
    rw [borders_node, panes_node]
    have := bordersL_len (b := b) (c := if b then c else r) (w := w) (h := k) ps 0 (if b then r else c) ih (fun _ e => by rw [e] at two; simp at two)
    simpa using this
end
end LA

/-! LA9: fitting again changes nothing -/
namespace LA
open PySem L2 ML
noncomputable section
theorem sub_sum : ∀ S low : List Int, low.length = S.length → ((S.zip low).map fun p => p.1 - p.2).sum = S.sum - low.sum
  | [], [], _ => by simp
  | [], _ :: _, h => by cases h
  | _ :: _, [], h => by cases h
  | s :: S, l :: low, h => by
    have ih := sub_sum S low (by simpa using h)
    simp only [List.zip_cons_cons, List.map_cons, List.sum_cons, ih]
    omega
theorem extras_sub : ∀ S low : List Int, (∀ i : Nat, low.getD i 0 ≤ S.getD i 0) → extras0 low S = (S.zip low).map fun p => p.1 - p.2
  | [], low, _ => by simp [extras0]
  | _ :: _, [], _ => by simp [extras0]
  | s :: S, l :: low, h => by
    have ih := extras_sub S low fun i => by simpa using h (i + 1)
    have h0 := h 0
    simp only [List.getD_cons_zero] at h0
    unfold extras0 at ih ⊢
    simp only [List.zip_cons_cons, List.map_cons, ih]
    congr 1
    omega
theorem news_same {sp : Int} (hs : 0 < sp) : ∀ S low : List Int, low.length = S.length → newsOf sp sp low ((S.zip low).map fun p => p.1 - p.2) = S
  | [], [], _ => rfl
  | [], _ :: _, h => by cases h
  | _ :: _, [], h => by cases h
  | s :: S, l :: low, h => by
    have ih := news_same hs S low (by simpa using h)
    unfold newsOf at ih ⊢
    simp only [List.zip_cons_cons, List.map_cons, ih]
    congr 1
    rw [Int.mul_ediv_cancel_left _ (by omega)]
    omega
theorem news_zero {w : Int} : ∀ low es : List Int, low.length = es.length → newsOf 0 w low es = low
  | [], [], _ => rfl
  | [], _ :: _, h => by cases h
  | _ :: _, [], h => by cases h
  | l :: low, e :: es, h => by
    have ih := news_zero (w := w) low es (by simpa using h)
    unfold newsOf at ih ⊢
    simp only [List.zip_cons_cons, List.map_cons, ih]
    congr 1
    simp
theorem give_zero : ∀ es xs : List Int, give es xs 0 = xs
  | [], xs => by unfold give; rfl
  | _ :: _, [] => by unfold give; rfl
  | e :: es, x :: xs => by
    unfold give
    rw [if_neg (by omega), give_zero es xs]
theorem same_of_zero : ∀ S low : List Int, low.length = S.length → (∀ x ∈ (S.zip low).map fun p => p.1 - p.2, x = 0) → S = low
  | [], [], _, _ => rfl
  | [], _ :: _, h, _ => by cases h
  | _ :: _, [], h, _ => by cases h
  | s :: S, l :: low, h, hz => by
    simp only [List.zip_cons_cons, List.map_cons, List.mem_cons] at hz
    have h0 := hz (s - l) (.inl rfl)
    rw [same_of_zero S low (by simpa using h) fun x hx => hz x (.inr hx)]
    congr 1
    omega
theorem Shr.idem {low old : List Int} (h : Shr low old) (t : Int) : share t low (share t low old) = share t low old := by
  have hl : low.length = (share t low old).length := by rw [h.len, h.ln]
  have hs := h.sum t
  have hg := h.ge t
  generalize share t low old = S at *
  have e0 := extras_sub S low hg
  have es := sub_sum S low hl
  have nn : ∀ x ∈ (S.zip low).map (fun p => p.1 - p.2), 0 ≤ x := fun x hx => by
    rw [← e0] at hx
    unfold extras0 at hx
    obtain ⟨y, _, rfl⟩ := List.mem_map.mp hx
    omega
  have hsp := spare_nn t low
  unfold share
  by_cases z : spareOf t low = 0
  · have e1 : S.sum = low.sum := by omega
    have e2 : S = low := same_of_zero S low hl (sum_zero nn (by omega))
    have e3 : (extrasOf low S).length = low.length := by rw [extrasOf_len hl, hl]
    simp only [z]
    rw [news_zero low _ e3.symm, Int.sub_self, Int.sub_self, give_zero, e2]
  · have e1 : extrasOf low S = (S.zip low).map fun p => p.1 - p.2 := by
      unfold extrasOf
      rw [e0, if_neg (by omega)]
    have e2 : ((S.zip low).map fun p => p.1 - p.2).sum = spareOf t low := by omega
    simp only [e1, e2]
    rw [news_same (by omega) S low hl, show spareOf t low - (S.sum - low.sum) = 0 by omega, give_zero]
theorem zip_again {α β : Type} (f : α × β → α) (f' : α × β → α) : ∀ (ps : List α) (ss : List β), (∀ y ∈ ps.zip ss, f' (f y, y.2) = f y) → (((ps.zip ss).map f).zip ss).map f' = (ps.zip ss).map f
  | [], ss, _ => by simp
  | _ :: _, [], _ => by simp
  | p :: ps, s :: ss, h => by
    simp only [List.zip_cons_cons, List.map_cons]
    rw [zip_again f f' ps ss fun y hy => h y (by simp [hy]), h (p, s) (by simp)]
theorem fit_idem {B : Int} (hB : B ≤ 1048576) {L : Lay} (h : Ok B L) : L.panes.length ≤ 100 → ∀ w k : Int, (L.fit w k).fit w k = L.fit w k := by
  induction h with
  | pane p => intro _ w k; rw [fit_pane, fit_pane]
  | @node b ps two sz alt sub ih =>
    intro hn w k
    have ok : Ok B (.node b ps) := .node two sz alt sub
    have pl := parts_len ok
    have sh := shrOf ok hB (by omega)
    have hlow := fit_low (.node b ps) w k
    have hsl := sizesOf_len b ps w k
    rw [fit_node] at hlow ⊢
    generalize hf : (fun y : Part × Int => (y.1.1.fit (if b then max w (Lay.node b ps).low.1 else y.2) (if b then y.2 else max k (Lay.node b ps).low.2), y.2)) = f at *
    rw [fit_node, hlow]
    have e1 : ((ps.zip (sizesOf b ps w k)).map f).map (fun x => ax b x.1.low) = ps.map fun x => ax b x.1.low := by
      refine fit_map (fun x => ax b x.1.low) (fun x => ax b x.1.low) b ps w k f fun x hx s => ?_
      rw [← hf]
      show ax b (Lay.fit _ _ _).low = _
      rw [fit_low]
    have e2 : ((ps.zip (sizesOf b ps w k)).map f).map (fun x => x.2) = sizesOf b ps w k := by
      rw [List.map_map]
      have := zip_snd (fun s : Int => s) ps (sizesOf b ps w k) (by omega)
      rw [List.map_id'] at this
      conv => rhs; rw [← this]
      rw [← hf]; rfl
    have e2' : ((ps.zip (sizesOf b ps w k)).map f).map (·.2) = sizesOf b ps w k := e2
    have hS : share (if b then max k (Lay.node b ps).low.2 else max w (Lay.node b ps).low.1) (ps.map fun x => ax b x.1.low) (ps.map (·.2)) = sizesOf b ps w k := rfl
    have e3 : sizesOf b ((ps.zip (sizesOf b ps w k)).map f) w k = sizesOf b ps w k := by
      generalize sizesOf b ps w k = S at *
      show share (if b then max k (Lay.node b ((ps.zip S).map f)).low.2 else max w (Lay.node b ((ps.zip S).map f)).low.1) (((ps.zip S).map f).map fun x => ax b x.1.low) (((ps.zip S).map f).map (·.2)) = S
      rw [hlow, e1, e2', ← hS]
      exact sh.idem _
    rw [e3]
    congr 1
    rw [hf]
    refine zip_again f f ps (sizesOf b ps w k) fun y hy => ?_
    have hx := (List.of_mem_zip hy).1
    have := sub_len (b := b) hx
    rw [← hf]
    simp only
    rw [ih y.1 hx (by omega)]
end
end LA

/-! LA10: small things for the laws -/
namespace LA
open PySem L2 ML
noncomputable section
theorem ints_eq (a b : List Int) (s : Sto) : eqW (intsW a) (intsW b) s = .ok (.bl (decide (a = b))) s := (cLst cInt).eq (by decide) a b s
theorem ints_ne (a b : List Int) (s : Sto) : neW (intsW a) (intsW b) s = .ok (.bl (!decide (a = b))) s := (cLst cInt).ne (by decide) a b s
theorem cutL_map {α β : Type} (f : α → β) (xs : List α) (lo hi : Option Int) : cutL (xs.map f) lo hi = (cutL xs lo hi).map f := by
  unfold cutL; simp
theorem cutL_len {α : Type} (xs : List α) (a b : Nat) : (cutL xs (some (a : Int)) (some (b : Int))).length ≤ b - a := by
  unfold cutL
  rw [HT.sIx_nat, HT.sIx_nat, List.length_take, List.length_drop]
  omega
theorem slF_kl (ns : List Int) (a b : Int) (s : Sto) : slF (.kl (ns.map W.int)) (some a) (some b) s = .ok (intsW (cutL ns (some a) (some b))) s := by
  show R.ok (W.fl (cutL (ns.map W.int) (some a) (some b))) s = _
  rw [cutL_map]; rfl
theorem cut_len (ns : List Int) (a b : Nat) {A B : Int} (hA : A = (a : Int)) (hB : B = (b : Int)) : (cutL ns (some A) (some B)).length ≤ b - a := by
  rw [hA, hB]; exact cutL_len ns a b
def boxWc : Cod Box := cTp (cCons cInt (cCons cInt (cCons cInt (cCons cInt (cOne cInt)))))
theorem boxWc_w (b : Box) : boxWc.w b = .tup [.int b.1, .int b.2.1, .int b.2.2.1, .int b.2.2.2.1, .int b.2.2.2.2] := rfl
theorem allF_tt {α : Type} (xs : List α) (s : Sto) : allF [.fl (xs.map fun _ => W.bl true)] s = .ok (.bl true) s := by
  simp [allF, lstK, lstOf, blsOf_mapf]
theorem seq_t (b : Bool) : (!decide (b = b)) = false := by simp
/-- a layout that at most so many steps make -/
theorem built_sound {w k : Int} (hw : w ≤ 1000) (hk : k ≤ 1000) (cs : List Int) {n : Nat} (hl : cs.length ≤ n) (hn : n ≤ 18) : Sound (n + 1) (builtB w k cs).1 :=
  ((built_made hw hk cs (by omega)).so).mono (by omega)
theorem built_le {w k : Int} (hw : w ≤ 1000) (hk : k ≤ 1000) (cs : List Int) {n : Nat} (hl : cs.length ≤ n) (hn : n ≤ 18) : ∀ p ∈ (builtB w k cs).1.panes, 1 ≤ p ∧ p ≤ (n : Int) + 1 := fun p hp => by
  have m := built_made hw hk cs (by omega)
  have := m.le p hp
  have := m.op
  omega
end
end LA

/-! LA11: boxes as a sheet of cells: what is next to what -/
namespace LA
open PySem L2 ML
noncomputable section
def inB (b : Box) (i j : Int) : Prop := b.2.1 ≤ i ∧ i < b.2.1 + b.2.2.2.2 ∧ b.2.2.1 ≤ j ∧ j < b.2.2.1 + b.2.2.2.1
instance (b : Box) (i j : Int) : Decidable (inB b i j) := by unfold inB; infer_instance
/-- the pane at a cell (boxes do not overlap) -/
def cellAt : List Box → Int → Int → Int
  | [], _, _ => 0
  | b :: bs, i, j => (if inB b i j then b.1 else 0) + cellAt bs i j
theorem cellAt_app : ∀ (xs ys : List Box) (i j : Int), cellAt (xs ++ ys) i j = cellAt xs i j + cellAt ys i j
  | [], ys, i, j => by simp [cellAt]
  | x :: xs, ys, i, j => by
    show (if inB x i j then x.1 else 0) + cellAt (xs ++ ys) i j = (if inB x i j then x.1 else 0) + cellAt xs i j + cellAt ys i j
    rw [cellAt_app xs ys i j]
    omega
/-- a sheet of panes and borders on a rectangle -/
structure Sheet (f : Int → Int → Int) (r c w h : Int) : Prop where
  pw : 1 ≤ w
  ph : 1 ≤ h
  out : ∀ i j, ¬ (r ≤ i ∧ i < r + h ∧ c ≤ j ∧ j < c + w) → f i j = 0
  right : ∀ i j, r ≤ i → i < r + h → c ≤ j → j + 1 < c + w → f i j ≠ 0 → f i (j + 1) = 0 ∨ f i (j + 1) = f i j
  down : ∀ i j, r ≤ i → i + 1 < r + h → c ≤ j → j < c + w → f i j ≠ 0 → f (i + 1) j = 0 ∨ f (i + 1) j = f i j
  top : ∀ i j, i = r ∨ i = r + h - 1 → c ≤ j → j < c + w → f i j = 0 → c < j ∧ j + 1 < c + w ∧ f i (j - 1) ≠ 0 ∧ f i (j + 1) ≠ 0
  side : ∀ i j, j = c ∨ j = c + w - 1 → r ≤ i → i < r + h → f i j = 0 → r < i ∧ i + 1 < r + h ∧ f (i - 1) j ≠ 0 ∧ f (i + 1) j ≠ 0
  sq : ∀ i j, r ≤ i → i + 1 < r + h → c ≤ j → j + 1 < c + w → ¬ (f i j = 0 ∧ f (i + 1) j = 0 ∧ f i (j + 1) = 0 ∧ f (i + 1) (j + 1) = 0)
theorem Sheet.turn {f : Int → Int → Int} {r c w h : Int} (s : Sheet f r c w h) : Sheet (fun i j => f j i) c r h w :=
  ⟨s.ph, s.pw, fun i j z => s.out j i fun y => z ⟨y.2.2.1, y.2.2.2, y.1, y.2.1⟩, fun i j h1 h2 h3 h4 h5 => s.down j i h3 h4 h1 h2 h5, fun i j h1 h2 h3 h4 h5 => s.right j i h3 h4 h1 h2 h5,
    fun i j h1 h2 h3 h4 => s.side j i h1 h2 h3 h4, fun i j h1 h2 h3 h4 => s.top j i h1 h2 h3 h4, fun i j h1 h2 h3 h4 z => s.sq j i h3 h4 h1 h2 ⟨z.1, z.2.2.1, z.2.1, z.2.2.2⟩⟩
theorem Sheet.ext {f g : Int → Int → Int} {r c w h : Int} (s : Sheet f r c w h) (e : ∀ i j, g i j = f i j) : Sheet g r c w h := by
  have : g = f := funext fun i => funext fun j => e i j
  rw [this]; exact s
/-- one box -/
theorem Sheet.one {p r c w h : Int} (hp : p ≠ 0) (hw : 1 ≤ w) (hh : 1 ≤ h) : Sheet (cellAt [(p, r, c, w, h)]) r c w h := by
  have e1 : ∀ i j, r ≤ i → i < r + h → c ≤ j → j < c + w → cellAt [(p, r, c, w, h)] i j = p := fun i j a b d e => by
    unfold cellAt cellAt
    rw [if_pos ⟨a, b, d, e⟩]
    omega
  have e0 : ∀ i j, ¬ (r ≤ i ∧ i < r + h ∧ c ≤ j ∧ j < c + w) → cellAt [(p, r, c, w, h)] i j = 0 := fun i j z => by
    unfold cellAt cellAt
    rw [if_neg (show ¬ inB (p, r, c, w, h) i j from z)]
    omega
  refine ⟨hw, hh, e0, fun i j h1 h2 h3 h4 _ => .inr ?_, fun i j h1 h2 h3 h4 _ => .inr ?_, fun i j h1 h2 h3 h4 => ?_, fun i j h1 h2 h3 h4 => ?_, fun i j h1 h2 h3 h4 z => ?_⟩
  · rw [e1 i j h1 h2 h3 (by omega), e1 i (j + 1) h1 h2 (by omega) h4]
  · rw [e1 i j h1 (by omega) h3 h4, e1 (i + 1) j (by omega) h2 h3 h4]
  · rw [e1 i j (by omega) (by omega) h2 h3] at h4; exact absurd h4 hp
  · rw [e1 i j h2 h3 (by omega) (by omega)] at h4; exact absurd h4 hp
  · rw [e1 i j h1 (by omega) h3 (by omega)] at z; exact hp z.1
/-- two sheets beside each other, a border between -/
theorem Sheet.beside {f g : Int → Int → Int} {r c w1 w2 h : Int} (sf : Sheet f r c w1 h) (sg : Sheet g r (c + w1 + 1) w2 h) : Sheet (fun i j => f i j + g i j) r c (w1 + 1 + w2) h := by
  have pw := sf.pw
  have pg := sg.pw
  have gl : ∀ i j, j ≤ c + w1 → g i j = 0 := fun i j z => sg.out i j (by omega)
  have fr : ∀ i j, c + w1 ≤ j → f i j = 0 := fun i j z => sf.out i j (by omega)
  have L : ∀ i j, j ≤ c + w1 → f i j + g i j = f i j := fun i j z => by rw [gl i j z]; omega
  have R : ∀ i j, c + w1 ≤ j → f i j + g i j = g i j := fun i j z => by rw [fr i j z]; omega
  have M : ∀ i, f i (c + w1) + g i (c + w1) = 0 := fun i => by rw [L i _ (by omega), fr i _ (by omega)]
  refine ⟨by omega, sf.ph, fun i j z => ?_, fun i j h1 h2 h3 h4 h5 => ?_, fun i j h1 h2 h3 h4 h5 => ?_, fun i j h1 h2 h3 h4 => ?_, fun i j h1 h2 h3 h4 => ?_, fun i j h1 h2 h3 h4 z => ?_⟩
  · show f i j + g i j = 0
    rw [sf.out i j (by omega), sg.out i j (by omega)]; rfl
  · show f i (j + 1) + g i (j + 1) = 0 ∨ f i (j + 1) + g i (j + 1) = f i j + g i j
    replace h5 : f i j + g i j ≠ 0 := h5
    by_cases k : j + 1 < c + w1
    · rw [L i j (by omega)] at h5 ⊢
      rw [L i (j + 1) (by omega)]
      exact sf.right i j h1 h2 h3 (by omega) h5
    by_cases k2 : j + 1 = c + w1
    · rw [k2]; exact .inl (M i)
    by_cases k3 : j = c + w1
    · rw [k3] at h5; exact absurd (M i) h5
    · rw [R i j (by omega)] at h5 ⊢
      rw [R i (j + 1) (by omega)]
      exact sg.right i j h1 h2 (by omega) (by omega) h5
  · show f (i + 1) j + g (i + 1) j = 0 ∨ f (i + 1) j + g (i + 1) j = f i j + g i j
    replace h5 : f i j + g i j ≠ 0 := h5
    by_cases k : j < c + w1
    · rw [L i j (by omega)] at h5 ⊢
      rw [L (i + 1) j (by omega)]
      exact sf.down i j h1 h2 h3 (by omega) h5
    by_cases k3 : j = c + w1
    · rw [k3] at h5; exact absurd (M i) h5
    · rw [R i j (by omega)] at h5 ⊢
      rw [R (i + 1) j (by omega)]
      exact sg.down i j h1 h2 (by omega) (by omega) h5
  · show c < j ∧ j + 1 < c + (w1 + 1 + w2) ∧ f i (j - 1) + g i (j - 1) ≠ 0 ∧ f i (j + 1) + g i (j + 1) ≠ 0
    replace h4 : f i j + g i j = 0 := h4
    by_cases k : j < c + w1
    · rw [L i j (by omega)] at h4
      obtain ⟨a1, a2, a3, a4⟩ := sf.top i j h1 h2 k h4
      rw [L i (j - 1) (by omega), L i (j + 1) (by omega)]
      exact ⟨a1, by omega, a3, a4⟩
    by_cases k3 : j = c + w1
    · subst k3
      rw [L i (c + w1 - 1) (by omega), R i (c + w1 + 1) (by omega)]
      refine ⟨by omega, by omega, fun z => ?_, fun z => ?_⟩
      · have := (sf.top i (c + w1 - 1) h1 (by omega) (by omega) z).2.1
        omega
      · have := (sg.top i (c + w1 + 1) h1 (by omega) (by omega) z).1
        omega
    · rw [R i j (by omega)] at h4
      obtain ⟨a1, a2, a3, a4⟩ := sg.top i j h1 (by omega) (by omega) h4
      rw [R i (j - 1) (by omega), R i (j + 1) (by omega)]
      exact ⟨by omega, by omega, a3, a4⟩
  · show r < i ∧ i + 1 < r + h ∧ f (i - 1) j + g (i - 1) j ≠ 0 ∧ f (i + 1) j + g (i + 1) j ≠ 0
    replace h4 : f i j + g i j = 0 := h4
    rcases h1 with h1 | h1
    · rw [L i j (by omega)] at h4
      rw [L (i - 1) j (by omega), L (i + 1) j (by omega)]
      exact sf.side i j (.inl h1) h2 h3 h4
    · rw [R i j (by omega)] at h4
      rw [R (i - 1) j (by omega), R (i + 1) j (by omega)]
      exact sg.side i j (.inr (by omega)) h2 h3 h4
  · have z : f i j + g i j = 0 ∧ f (i + 1) j + g (i + 1) j = 0 ∧ f i (j + 1) + g i (j + 1) = 0 ∧ f (i + 1) (j + 1) + g (i + 1) (j + 1) = 0 := z
    by_cases k : j + 1 < c + w1
    · rw [L i j (by omega), L (i + 1) j (by omega), L i (j + 1) (by omega), L (i + 1) (j + 1) (by omega)] at z
      exact sf.sq i j h1 h2 h3 (by omega) z
    by_cases k2 : j + 1 = c + w1
    · rw [L i j (by omega), L (i + 1) j (by omega)] at z
      exact (sf.side i j (.inr (by omega)) h1 (by omega) z.1).2.2.2 z.2.1
    by_cases k3 : j = c + w1
    · rw [R i (j + 1) (by omega), R (i + 1) (j + 1) (by omega)] at z
      exact (sg.side i (j + 1) (.inl (by omega)) h1 (by omega) z.2.2.1).2.2.2 z.2.2.2
    · rw [R i j (by omega), R (i + 1) j (by omega), R i (j + 1) (by omega), R (i + 1) (j + 1) (by omega)] at z
      exact sg.sq i j h1 h2 (by omega) (by omega) z
theorem Sheet.below {f g : Int → Int → Int} {r c w h1 h2 : Int} (sf : Sheet f r c w h1) (sg : Sheet g (r + h1 + 1) c w h2) : Sheet (fun i j => f i j + g i j) r c w (h1 + 1 + h2) :=
  (sf.turn.beside sg.turn).turn
/-- sizes that fill the room exactly -/
inductive Tight : Lay → Int → Int → Prop
  | pane (p w h : Int) : p ≠ 0 → 2 ≤ w → 1 ≤ h → Tight (.pane p) w h
  | node {b : Bool} {ps : List Part} {w h : Int} : ps ≠ [] → (ps.map (·.2)).sum + ((ps.length : Int) - 1) = (if b then h else w) → (∀ x ∈ ps, Tight x.1 (if b then w else x.2) (if b then x.2 else h)) → Tight (.node b ps) w h
theorem Tight.pos {L : Lay} {w h : Int} (t : Tight L w h) : 1 ≤ w ∧ 1 ≤ h := by
  induction t with
  | pane p w h a b c => omega
  | @node b ps w h ne sum sub ih =>
    have one : ∀ x ∈ ps, 1 ≤ x.2 ∧ (if b then 1 ≤ w else 1 ≤ h) := fun x hx => by
      have := ih x hx
      cases b <;> simp at this ⊢ <;> omega
    have : ∀ qs : List Part, (∀ x ∈ qs, 1 ≤ x.2) → (qs.length : Int) ≤ (qs.map (·.2)).sum := by
      intro qs
      induction qs with
      | nil => intro _; simp
      | cons x xs ih => intro h; have := ih fun y hy => h y (by simp [hy]); have := h x (by simp); simp; omega
    have s1 := this ps fun x hx => (one x hx).1
    cases ps with
    | nil => exact absurd rfl ne
    | cons x xs =>
      have o := (one x (by simp)).2
      rw [List.length_cons] at s1 sum
      cases b <;> simp at o sum s1 <;> omega
/-- parts in a row -/
theorem boxesL_sheet {b : Bool} {cc w h : Int} : ∀ (ps : List Part) (o : Int), ps ≠ [] → (∀ x ∈ ps, ∀ r c, Sheet (cellAt (x.1.boxes r c (if b then w else x.2) (if b then x.2 else h))) r c (if b then w else x.2) (if b then x.2 else h)) →
    Sheet (cellAt (boxesL b cc w h o ps)) (if b then o else cc) (if b then cc else o) (if b then w else (ps.map (·.2)).sum + ((ps.length : Int) - 1)) (if b then (ps.map (·.2)).sum + ((ps.length : Int) - 1) else h)
  | [], _, ne, _ => absurd rfl ne
  | [x], o, _, hx => by
    have q := hx x (by simp) (if b then o else cc) (if b then cc else o)
    unfold boxesL boxesL
    rw [List.append_nil]
    cases b <;> simpa using q
  | x :: y :: ps, o, _, hx => by
    have q := hx x (by simp) (if b then o else cc) (if b then cc else o)
    have r := boxesL_sheet (b := b) (cc := cc) (w := w) (h := h) (y :: ps) (o + x.2 + 1) (by simp) fun z hz => hx z (by simp [hz])
    unfold boxesL
    have ln : ((x :: y :: ps).length : Int) = ((y :: ps).length : Int) + 1 := by simp
    have sm : ((x :: y :: ps).map (·.2)).sum = x.2 + ((y :: ps).map (·.2)).sum := by simp
    rw [ln, sm]
    generalize ((y :: ps).map (·.2)).sum = S at *
    generalize ((y :: ps).length : Int) = N at *
    cases b
    · simp only [Bool.false_eq_true, if_false] at q r ⊢
      refine (Sheet.ext (f := fun i j => cellAt (x.1.boxes cc o x.2 h) i j + cellAt (boxesL false cc w h (o + x.2 + 1) (y :: ps)) i j) ?_ fun i j => cellAt_app _ _ i j)
      have e := q.beside r
      rw [show x.2 + 1 + (S + (N - 1)) = x.2 + S + (N + 1 - 1) by omega] at e
      exact e
    · simp only [if_true] at q r ⊢
      refine (Sheet.ext (f := fun i j => cellAt (x.1.boxes o cc w x.2) i j + cellAt (boxesL true cc w h (o + x.2 + 1) (y :: ps)) i j) ?_ fun i j => cellAt_app _ _ i j)
      have e := q.below r
      rw [show x.2 + 1 + (S + (N - 1)) = x.2 + S + (N + 1 - 1) by omega] at e
      exact e
theorem Tight.sheet {L : Lay} {w h : Int} (t : Tight L w h) : ∀ r c, Sheet (cellAt (L.boxes r c w h)) r c w h := by
  induction t with
  | pane p w h a b d => intro r c; rw [boxes_pane]; exact .one a (by omega) d
  | @node b ps w h ne sum sub ih =>
    intro r c
    rw [boxes_node]
    have q := boxesL_sheet (b := b) (cc := if b then c else r) (w := w) (h := h) ps (if b then r else c) ne ih
    cases b
    · simp only [Bool.false_eq_true, if_false] at q sum ⊢
      rw [sum] at q; exact q
    · simp only [if_true] at q sum ⊢
      rw [sum] at q; exact q
/-- the boxes are in the room, none over another -/
def boxIn (b : Box) (r c w h : Int) : Prop := b.1 ≠ 0 ∧ r ≤ b.2.1 ∧ b.2.1 + b.2.2.2.2 ≤ r + h ∧ c ≤ b.2.2.1 ∧ b.2.2.1 + b.2.2.2.1 ≤ c + w ∧ 2 ≤ b.2.2.2.1 ∧ 1 ≤ b.2.2.2.2
def apart (a b : Box) : Prop := ∀ i j, inB a i j → ¬ inB b i j
theorem boxesL_in {b : Bool} {cc w h : Int} : ∀ (ps : List Part) (o : Int), (∀ x ∈ ps, 1 ≤ x.2) → (∀ x ∈ ps, ∀ r c, (∀ y ∈ x.1.boxes r c (if b then w else x.2) (if b then x.2 else h), boxIn y r c (if b then w else x.2) (if b then x.2 else h)) ∧ (x.1.boxes r c (if b then w else x.2) (if b then x.2 else h)).Pairwise apart) →
    (∀ y ∈ boxesL b cc w h o ps, boxIn y (if b then o else cc) (if b then cc else o) (if b then w else (ps.map (·.2)).sum + ((ps.length : Int) - 1)) (if b then (ps.map (·.2)).sum + ((ps.length : Int) - 1) else h)) ∧ (boxesL b cc w h o ps).Pairwise apart
  | [], o, _, _ => ⟨(fun y hy => nomatch hy), List.Pairwise.nil⟩
  | x :: ps, o, hp, hx => by
    obtain ⟨q1, q2⟩ := hx x (by simp) (if b then o else cc) (if b then cc else o)
    obtain ⟨r1, r2⟩ := boxesL_in (b := b) (cc := cc) (w := w) (h := h) ps (o + x.2 + 1) (fun z hz => hp z (by simp [hz])) fun z hz => hx z (by simp [hz])
    have px := hp x (by simp)
    have sn : 0 ≤ (ps.map (·.2)).sum := by
      refine sum_nn fun y hy => ?_
      obtain ⟨z, hz, rfl⟩ := List.mem_map.mp hy
      have := hp z (by simp [hz])
      omega
    unfold boxesL
    have ln : ((x :: ps).length : Int) = (ps.length : Int) + 1 := by simp
    have sm : ((x :: ps).map (·.2)).sum = x.2 + (ps.map (·.2)).sum := by simp
    rw [ln, sm]
    generalize (ps.map (·.2)).sum = S at *
    have nn : (0 : Int) ≤ (ps.length : Int) := by omega
    generalize (ps.length : Int) = N at *
    cases b
    · simp only [Bool.false_eq_true, if_false] at q1 q2 r1 ⊢
      refine ⟨fun y hy => ?_, List.pairwise_append.mpr ⟨q2, r2, fun a ha d hd i j z1 z2 => ?_⟩⟩
      · rcases List.mem_append.mp hy with hy | hy
        · obtain ⟨a1, a2, a3, a4, a5, a6, a7⟩ := q1 y hy
          exact ⟨a1, a2, a3, a4, by omega, a6, a7⟩
        · obtain ⟨a1, a2, a3, a4, a5, a6, a7⟩ := r1 y hy
          exact ⟨a1, a2, a3, by omega, by omega, a6, a7⟩
      · obtain ⟨a1, a2, a3, a4, a5, a6, a7⟩ := q1 a ha
        obtain ⟨d1, d2, d3, d4, d5, d6, d7⟩ := r1 d hd
        unfold inB at z1 z2
        omega
    · simp only [if_true] at q1 q2 r1 ⊢
      refine ⟨fun y hy => ?_, List.pairwise_append.mpr ⟨q2, r2, fun a ha d hd i j z1 z2 => ?_⟩⟩
      · rcases List.mem_append.mp hy with hy | hy
        · obtain ⟨a1, a2, a3, a4, a5, a6, a7⟩ := q1 y hy
          exact ⟨a1, a2, by omega, a4, a5, a6, a7⟩
        · obtain ⟨a1, a2, a3, a4, a5, a6, a7⟩ := r1 y hy
          exact ⟨a1, by omega, by omega, a4, a5, a6, a7⟩
      · obtain ⟨a1, a2, a3, a4, a5, a6, a7⟩ := q1 a ha
        obtain ⟨d1, d2, d3, d4, d5, d6, d7⟩ := r1 d hd
        unfold inB at z1 z2
        omega
theorem Tight.inside {L : Lay} {w h : Int} (t : Tight L w h) : ∀ r c, (∀ y ∈ L.boxes r c w h, boxIn y r c w h) ∧ (L.boxes r c w h).Pairwise apart := by
  induction t with
  | pane p w h a b d =>
    intro r c
    rw [boxes_pane]
    exact ⟨fun y hy => by rw [List.mem_singleton.mp hy]; exact ⟨a, Int.le_refl _, Int.le_refl _, Int.le_refl _, Int.le_refl _, b, d⟩, List.pairwise_singleton ..⟩
  | @node b ps w h ne sum sub ih =>
    intro r c
    rw [boxes_node]
    have q := boxesL_in (b := b) (cc := if b then c else r) (w := w) (h := h) ps (if b then r else c) (fun x hx => by have := (sub x hx).pos; cases b <;> simp at this <;> omega) ih
    cases b
    · simp only [Bool.false_eq_true, if_false] at q sum ⊢
      rw [sum] at q; exact q
    · simp only [if_true] at q sum ⊢
      rw [sum] at q; exact q
end
end LA

/-! LA12: a fitted layout fills its room exactly; what the law looks at -/
namespace LA
open PySem L2 ML
noncomputable section
theorem low_cross {b : Bool} {ps : List Part} {x : Part} (hx : x ∈ ps) : (if b then x.1.low.1 ≤ (Lay.node b ps).low.1 else x.1.low.2 ≤ (Lay.node b ps).low.2) := by
  rw [low_node]
  unfold lowOf
  cases b
  · simp only [Bool.false_eq_true, if_false]
    exact maxL_le (List.mem_map.mpr ⟨x.1.low, List.mem_map.mpr ⟨x, hx, rfl⟩, rfl⟩)
  · simp only [if_true]
    exact maxL_le (List.mem_map.mpr ⟨x.1.low, List.mem_map.mpr ⟨x, hx, rfl⟩, rfl⟩)
theorem fit_tight {B : Int} (hB : B ≤ 1048576) {L : Lay} (h : Ok B L) : L.panes.length ≤ 100 → (∀ p ∈ L.panes, p ≠ 0) → ∀ w k : Int, Tight (L.fit w k) (max w L.low.1) (max k L.low.2) := by
  induction h with
  | pane p =>
    intro _ hp w k
    rw [fit_pane, low_pane]
    exact .pane p _ _ (hp p (by rw [panes_pane]; simp)) (by show (2 : Int) ≤ max w 2; omega) (by show (1 : Int) ≤ max k 1; omega)
  | @node b ps two sz alt sub ih =>
    intro hn hp w k
    have ok : Ok B (.node b ps) := .node two sz alt sub
    have pl := parts_len ok
    have sh := shrOf ok hB (by omega)
    have la := low_ax b ps
    have hsl := sizesOf_len b ps w k
    have hsum : (sizesOf b ps w k).sum + ((ps.length : Int) - 1) = (if b then max k (Lay.node b ps).low.2 else max w (Lay.node b ps).low.1) := by
      have e : (sizesOf b ps w k).sum = (ps.map fun x => ax b x.1.low).sum + spareOf (if b then max k (Lay.node b ps).low.2 else max w (Lay.node b ps).low.1) (ps.map fun x => ax b x.1.low) := sh.sum _
      rw [e]
      unfold spareOf
      rw [List.length_map]
      unfold ax at la ⊢
      cases b
      · simp only [Bool.false_eq_true, if_false] at la ⊢; omega
      · simp only [if_true] at la ⊢; omega
    have hge : ∀ y ∈ ps.zip (sizesOf b ps w k), ax b y.1.1.low ≤ y.2 := fun y hy => by
      obtain ⟨i, hi, e⟩ := List.getElem_of_mem hy
      rw [List.getElem_zip] at e
      simp only [List.length_zip] at hi
      have h1 := sh.ge (if b then max k (Lay.node b ps).low.2 else max w (Lay.node b ps).low.1) i
      have hi1 : i < ps.length := by omega
      have hi2 : i < (sizesOf b ps w k).length := by omega
      have e1 : ((ps.map fun x => ax b x.1.low).getD i 0) = ax b ps[i].1.low := by
        rw [List.getD_eq_getElem?_getD, List.getElem?_map, List.getElem?_eq_getElem hi1]; rfl
      have e2 : (sizesOf b ps w k).getD i 0 = (sizesOf b ps w k)[i] := by
        rw [List.getD_eq_getElem?_getD, List.getElem?_eq_getElem hi2]; rfl
      change _ ≤ (sizesOf b ps w k).getD i 0 at h1
      rw [e1, e2] at h1
      rw [← e]
      exact h1
    rw [fit_node]
    refine .node (fun z => ?_) ?_ fun x hx => ?_
    · have := congrArg List.length z
      rw [List.length_map, List.length_zip, hsl, Nat.min_self, List.length_nil] at this
      omega
    · rw [List.map_map, List.length_map, List.length_zip, hsl, Nat.min_self, ← hsum]
      have := zip_snd (fun s : Int => s) ps (sizesOf b ps w k) (by omega)
      rw [List.map_id'] at this
      congr 1
      conv => rhs; rw [← this]
      rfl
    · obtain ⟨y, hy, rfl⟩ := List.mem_map.mp hx
      have h1 := (List.of_mem_zip hy).1
      have h3 := sub_len (b := b) h1
      have hp1 : ∀ p ∈ y.1.1.panes, p ≠ 0 := fun p hq => hp p (by rw [panes_node]; exact List.mem_flatMap.mpr ⟨y.1, h1, hq⟩)
      have q := ih y.1 h1 (by omega) hp1 (if b then max w (Lay.node b ps).low.1 else y.2) (if b then y.2 else max k (Lay.node b ps).low.2)
      have g := hge y hy
      have lc := low_cross (b := b) h1
      unfold ax at g
      cases b
      · simp only [Bool.false_eq_true, if_false] at q g lc ⊢
        rw [show max y.2 y.1.1.low.1 = y.2 by omega, show max (max k (Lay.node false ps).low.2) y.1.1.low.2 = max k (Lay.node false ps).low.2 by omega] at q
        exact q
      · simp only [if_true] at q g lc ⊢
        rw [show max y.2 y.1.1.low.2 = y.2 by omega, show max (max w (Lay.node true ps).low.1) y.1.1.low.1 = max w (Lay.node true ps).low.1 by omega] at q
        exact q
end
end LA

/-! ML18: dicts with written text keys, as records: the keys that a dict has got are the first ones of a fixed list -/
namespace ML
open PySem L2
noncomputable section
theorem RelS.placedD {C : MC} {H : Hp} {ρ : Pl} {st : Sto} {D : Addr} {kvs : List (Key × V)} {kws : List (Key × W)} (S : RelS C H ρ st) (hD : D ∈ ρ.hd) (hl : H D = some (.dK kvs)) (ra : RepK C.K H ρ st kvs kws) : RelS C H ((ρ.show D).add D) (st ++ [.dct kws]) := by
  have nD := (S.hid D hD).2
  refine ⟨by show (ρ.pl ++ [D]).length = _; simp [S.len], fun l m a h1 h2 => ?_, fun l a x h e => ?_, fun a h => ?_⟩
  · rcases add_at (ρ := ρ.show D) h1 with h1 | ⟨h1, e1⟩
    · rcases add_at (ρ := ρ.show D) h2 with h2 | ⟨h2, e2⟩
      · exact S.inj l m a h1 h2
      · rw [e2] at h1; exact absurd h1 (nD l)
    · rcases add_at (ρ := ρ.show D) h2 with h2 | ⟨h2, e2⟩
      · rw [e1] at h2; exact absurd h2 (nD m)
      · rw [h1, h2]
  · rcases add_at (ρ := ρ.show D) h with h | ⟨h, ea⟩
    · have hlt : l < st.length := by rw [← S.len]; exact (List.getElem?_eq_some_iff.mp h).1
      rw [List.getElem?_append_left hlt] at e
      have q := S.obj l a x h e
      cases x with
      | dead => exact q
      | lst ws => obtain ⟨vs, q, r⟩ := q; exact ⟨vs, q, r.placed hD⟩
      | ins c fs => obtain ⟨Cd, nm, dx, fvs, q1, q2, r1, r2, r3⟩ := q; exact ⟨Cd, nm, dx, fvs, q1, q2, r1, fun i f w a b => let ⟨v, e, r⟩ := r2 i f w a b; ⟨v, e, r.placed hD⟩, r3⟩
      | dct kws => obtain ⟨kvs, q, r⟩ := q; exact ⟨kvs, q, RepK.placed hD r⟩
    · have hl' : l = st.length := by rw [h]; exact S.len
      rw [hl', List.getElem?_append_right (Nat.le_refl _)] at e
      simp at e
      rw [ea, ← e]
      exact ⟨kvs, hl, RepK.placed hD ra⟩
  · have hs := show_sub h
    refine ⟨(S.hid a hs).1, fun l z => ?_⟩
    rcases add_at (ρ := ρ.show D) z with z | ⟨_, z⟩
    · exact (S.hid a hs).2 l z
    · rw [z] at h; exact show_not h
/-! ### what a dict holds -/
section
variable {K : PySem.W.Frag} {H : Hp} {ρ : Pl} {st : Sto}
theorem RepK.keys : ∀ {kvs : List (Key × V)} {kws : List (Key × W)}, RepK K H ρ st kvs kws → kvs.map (·.1) = kws.map (·.1)
  | [], [], _ => rfl
  | (k, v) :: kvs, (j, w) :: kws, h => by simp only [List.map_cons, h.1, RepK.keys h.2.2]
  | [], _ :: _, h => h.elim
  | _ :: _, [], h => h.elim
theorem RepK.length {kvs : List (Key × V)} {kws : List (Key × W)} (h : RepK K H ρ st kvs kws) : kvs.length = kws.length := by
  have := congrArg List.length h.keys
  simpa using this
theorem RepK.get : ∀ {kvs : List (Key × V)} {kws : List (Key × W)} {i : Nat} {p : Key × W}, RepK K H ρ st kvs kws → kws[i]? = some p → ∃ v, kvs[i]? = some (p.1, v) ∧ Rep K H ρ st v p.2
  | [], [], _, _, _, e => by simp at e
  | (k, v) :: kvs, (j, w) :: kws, 0, p, h, e => by simp at e; subst e; exact ⟨v, by rw [h.1]; rfl, h.2.1⟩
  | (k, v) :: kvs, (j, w) :: kws, i + 1, p, h, e => by
    obtain ⟨u, h1, h2⟩ := RepK.get (i := i) h.2.2 (by simpa using e)
    exact ⟨u, by simpa using h1, h2⟩
  | [], _ :: _, _, _, h, _ => h.elim
  | _ :: _, [], _, _, h, _ => h.elim
theorem RepK.set {v : V} {w : W} (r : Rep K H ρ st v w) : ∀ {kvs : List (Key × V)} {kws : List (Key × W)} {i : Nat} {k : Key}, RepK K H ρ st kvs kws → RepK K H ρ st (kvs.set i (k, v)) (kws.set i (k, w))
  | [], [], _, _, _ => trivial
  | (k, v) :: kvs, (j, w) :: kws, 0, _, h => ⟨rfl, r, h.2.2⟩
  | (k, v) :: kvs, (j, w) :: kws, i + 1, _, h => ⟨h.1, h.2.1, RepK.set r h.2.2⟩
  | [], _ :: _, _, _, h => h.elim
  | _ :: _, [], _, _, h => h.elim
theorem RepK.snoc {v : V} {w : W} {k : Key} (r : Rep K H ρ st v w) : ∀ {kvs : List (Key × V)} {kws : List (Key × W)}, RepK K H ρ st kvs kws → RepK K H ρ st (kvs ++ [(k, v)]) (kws ++ [(k, w)])
  | [], [], _ => ⟨rfl, r, trivial⟩
  | (k, v) :: kvs, (j, w) :: kws, h => ⟨h.1, h.2.1, RepK.snoc r h.2.2⟩
  | [], _ :: _, h => h.elim
  | _ :: _, [], h => h.elim
theorem RepK.evo' {H' : Hp} {ρ' : Pl} {st' : Sto} (E : Evo H ρ st H' ρ' st') (L : Liv H ρ st) : ∀ {kvs : List (Key × V)} {kws : List (Key × W)}, RepK K H ρ st kvs kws → RepK K H' ρ' st' kvs kws
  | [], [], _ => trivial
  | (k, v) :: kvs, (j, w) :: kws, h => ⟨h.1, h.2.1.evo E L, RepK.evo' E L h.2.2⟩
  | [], _ :: _, h => h.elim
  | _ :: _, [], h => h.elim
theorem RepK.zip : ∀ {ks : List Key} {vs : List V} {ws : List W}, RepL K H ρ st vs ws → RepK K H ρ st (ks.zip vs) (ks.zip ws)
  | [], _, _, _ => by simp [RepK]
  | _ :: _, [], [], _ => by simp [RepK]
  | k :: ks, v :: vs, w :: ws, .cons h r => ⟨rfl, h, RepK.zip r⟩
end
theorem val_at : ∀ {kvs : List (Key × V)} {j : Nat} {k : Key} {v : V}, kvs[j]? = some (k, v) → k ∉ (kvs.map (·.1)).take j → valV kvs k = some v
  | [], _, _, _, e, _ => by simp at e
  | p :: r, 0, k, v, e, _ => by simp at e; rw [valV_pos (by rw [e])]; rw [e]
  | p :: r, j + 1, k, v, e, n => by
    simp only [List.map_cons, List.take_succ_cons, List.mem_cons, not_or] at n
    rw [valV_neg (Ne.symm n.1)]
    exact val_at (j := j) (by simpa using e) n.2
theorem put_at : ∀ {kvs : List (Key × V)} {j : Nat} {k : Key} {v u : V}, kvs[j]? = some (k, u) → (kvs.map (·.1)).Nodup → putK kvs k v = kvs.set j (k, v) := by
  intro kvs j k v u e nd
  have hin : (kvs.any fun kv => decide (kv.1 = k)) = true := List.any_eq_true.mpr ⟨(k, u), List.mem_of_getElem? e, by simp⟩
  unfold putK
  rw [if_pos hin]
  clear hin
  induction kvs generalizing j with
  | nil => simp at e
  | cons p r ih =>
    rw [List.map_cons, List.nodup_cons] at nd
    cases j with
    | zero =>
      simp at e
      have hr : r.map (fun kv => if kv.1 = k then (kv.1, v) else kv) = r := by
        conv => rhs; rw [← List.map_id r]
        apply List.map_congr_left
        intro q hq
        have : q.1 ≠ k := fun z => nd.1 (by rw [e]; exact List.mem_map.mpr ⟨q, hq, z⟩)
        rw [if_neg this]; rfl
      rw [List.map_cons, hr, e]; simp
    | succ j =>
      have ne : p.1 ≠ k := fun z => nd.1 (by
        have e2 : r[j]? = some (k, u) := by simpa using e
        rw [z]; exact List.mem_map.mpr ⟨(k, u), List.mem_of_getElem? e2, rfl⟩)
      rw [List.map_cons, if_neg ne, ih (by simpa using e) nd.2]; rfl
theorem put_new {kvs : List (Key × V)} {k : Key} {v : V} (n : k ∉ kvs.map (·.1)) : putK kvs k v = kvs ++ [(k, v)] := by
  unfold putK
  rw [if_neg]
  intro h
  obtain ⟨p, hp, e⟩ := List.any_eq_true.mp h
  exact n (List.mem_map.mpr ⟨p, hp, by simpa using e⟩)
/-! ### readings -/
/-- the keys that are there are the first ones of ks -/
def preK (ks : List Key) (kws : List (Key × W)) : Prop := kws.map (·.1) = ks.take kws.length ∧ kws.length ≤ ks.length
def dgW (ks : List Key) (j : Nat) (x : W) (s : Sto) : R W := match x with
  | .loc l => match s[l]? with
    | some (.dct kws) => if ck (preK ks kws) = true then (match kws[j]? with
      | some p => .ok p.2 s
      | none => .no) else .no
    | _ => .no
  | _ => .no
def dpW (ks : List Key) (j : Nat) (k : Key) (x w : W) (s : Sto) : R Unit := match x with
  | .loc l => match s[l]? with
    | some (.dct kws) => if ck (preK ks kws) = true then (if j < kws.length then .ok () (s.set l (.dct (kws.set j (k, w)))) else if j = kws.length then .ok () (s.set l (.dct (kws ++ [(k, w)]))) else .no) else .no
    | _ => .no
  | _ => .no
/-- d[k] = w -/
def dpS (ks : List Key) (j : Nat) (k : Key) (mo mv : Ex) : Sx := fun env st => (mv env st).toS fun w s1 => (mo env s1).toS fun x s2 => (dpW ks j k x w s2).toS fun _ s3 => .nx env s3
section
variable {X : Cx} {C : MC} {E : XK} {o i value e : Expr} {mo mv ma : Ex} {pos pos' : Pos}
/-- where a key stands in the list -/
structure KAt (ks : List Key) (j : Nat) (k : Key) : Prop where
  at_ : ks[j]? = some k
  nd : ks.Nodup
theorem KAt.not {ks : List Key} {j : Nat} {k : Key} (h : KAt ks j k) : k ∉ ks.take j := fun hm => by
  obtain ⟨i, hi, e⟩ := List.getElem_of_mem hm
  rw [List.length_take] at hi
  rw [List.getElem_take] at e
  have hj := (List.getElem?_eq_some_iff.mp h.at_).1
  have e2 := (List.getElem?_eq_some_iff.mp h.at_).2
  have := (List.getElem_inj h.nd).mp (e.trans e2.symm)
  omega
theorem me_dg {ks : List Key} {j : Nat} {k : Str} {kp : Pos} {jj : Nat} (hu : X.A.units + 1 < cLine) (hk : KAt ks j (.inr k)) (ho : ME X C E o mo) (hs : NoSl (.Constant (.str k) jj kp)) : ME X C E (.Subscript o (.Constant (.str k) jj kp) pos) (un (dgW ks j) mo) := by
  refine PE.imp (pe_dget hu ho pe_str hs) fun σ H Q ⟨ρ, st, env, re, S, p⟩ => ⟨ρ, st, env, re, S, Post.bind p fun x s1 H1 ρ1 v _ e1 S1 r1 p1 => ?_⟩
  unfold dgW at p1
  split at p1
  · rename_i l
    split at p1
    · rename_i kws es
      split at p1
      · rename_i hp
        have hp : preK ks kws := ck_iff.mp hp
        split at p1
        · rename_i q hq
          cases r1 with
          | @loc a l ha =>
            obtain ⟨kvs, hz, rk⟩ := S1.obj _ a _ ha es
            obtain ⟨u, hu2, ru⟩ := RepK.get rk hq
            have hjl : j < kws.length := (List.getElem?_eq_some_iff.mp hq).1
            have ek : q.1 = .inr k := by
              have h1 : (kws.map (·.1))[j]? = some q.1 := by rw [List.getElem?_map, hq]; rfl
              rw [hp.1, List.getElem?_take_of_lt hjl, hk.at_] at h1
              exact (Option.some.inj h1).symm
            refine ⟨a, u, rfl, ?_, p1 H1 ρ1 u (Evo.refl ..) S1 ru⟩
            have hv : valV kvs (.inr k) = some u := by
              rw [← ek]
              refine val_at hu2 ?_
              rw [rk.keys, hp.1, ek]
              intro hm
              rw [List.take_take, Nat.min_eq_left (Nat.le_of_lt hjl)] at hm
              exact hk.not hm
            have := DGet.k (a := a) (k := .inr k) hz
            rw [hv] at this
            exact this
        · exact p1.elim
      · exact p1.elim
    · exact p1.elim
  · exact p1.elim
theorem dct_write {H : Hp} {ρ : Pl} {st : Sto} {l : Nat} {a : Addr} {kvs : List (Key × V)} {kws us : List (Key × W)} (S : RelS C H ρ st) (h : ρ.pl[l]? = some a) (e : st[l]? = some (.dct us)) (r : RepK C.K H ρ st kvs kws) :
    Evo H ρ st (upd H a (.dK kvs)) ρ (st.set l (.dct kws)) ∧ RelS C (upd H a (.dK kvs)) ρ (st.set l (.dct kws)) :=
  have ev : Evo H ρ st (upd H a (.dK kvs)) ρ (st.set l (.dct kws)) := Evo.write h e (fun z => nomatch z)
  ⟨ev, S.write h e (fun z => nomatch z) ⟨kvs, upd_same, RepK.evo' ev S.liv r⟩⟩
theorem ms_dp {ks : List Key} {j : Nat} {k : Str} {kp : Pos} {jj : Nat} (hu : X.A.units + 1 < cLine) (hk : KAt ks j (.inr k)) (hs60 : ks.length < 1000) (ho : ME X C E o mo) (hv : ME X C E value mv)
    (hs : swapsWith value (some (.Subscript o (.Constant (.str k) jj kp) pos')) pos.line X.env = pure false := by rfl) :
    MS X C E (.Assign [.Subscript o (.Constant (.str k) jj kp) pos'] value pos) (dpS ks j (.inr k) mo mv) := by
  refine PS.imp (ps_dput hu ho pe_str hv hs) fun D σ H ⟨ρ, st, env, re, S, p⟩ => ⟨ρ, st, env, re, S, PostS.bind p fun w s1 H1 ρ1 v _ e1 S1 r1 p1 => ?_⟩
  have re1 := re.evo e1 S.liv
  refine ⟨ρ1, s1, env, re1, S1, PostS.bind p1 fun x s2 H2 ρ2 u _ e2 S2 r2 p2 => ?_⟩
  have re2 := re1.evo e2 S1.liv
  have rw2 := r1.evo e2 S1.liv
  unfold dpW at p2
  split at p2
  · rename_i l
    split at p2
    · rename_i kws es
      split at p2
      · rename_i hp
        have hp : preK ks kws := ck_iff.mp hp
        cases r2 with
        | @loc a l ha =>
          obtain ⟨kvs, hz, rk⟩ := S2.obj _ a _ ha es
          have hln : kvs.length = kws.length := rk.length
          have h63 : (1000 : Nat) ≤ sizeLine := by decide
          have hl2 : kvs.length < sizeLine := by have := hp.2; omega
          split at p2
          · rename_i hj
            obtain ⟨q, hq⟩ : ∃ q, kws[j]? = some q := ⟨kws[j], List.getElem?_eq_getElem hj⟩
            obtain ⟨u, hu2, ru⟩ := RepK.get rk hq
            have ek : q.1 = .inr k := by
              have h1 : (kws.map (·.1))[j]? = some q.1 := by rw [List.getElem?_map, hq]; rfl
              rw [hp.1, List.getElem?_take_of_lt hj, hk.at_] at h1
              exact (Option.some.inj h1).symm
            rw [ek] at hu2
            have nd : (kvs.map (·.1)).Nodup := by rw [rk.keys, hp.1]; exact hk.nd.sublist (List.take_sublist _ _)
            obtain ⟨ev, S3⟩ := dct_write S2 ha es (RepK.set (k := .inr k) rw2 (i := j) rk)
            refine ⟨a, _, rfl, DPut.k (k := .inr k) (v := v) hz hl2, ?_⟩
            rw [put_at hu2 nd]
            exact p2 _ ρ2 σ ev S3 (re2.evo ev S2.liv)
          · split at p2
            · rename_i hj
              have nk : (Sum.inr k : Key) ∉ kvs.map (·.1) := by
                rw [rk.keys, hp.1, ← hj]; exact hk.not
              obtain ⟨ev, S3⟩ := dct_write S2 ha es (RepK.snoc (k := .inr k) rw2 rk)
              refine ⟨a, _, rfl, DPut.k (k := .inr k) (v := v) hz hl2, ?_⟩
              rw [put_new nk]
              exact p2 _ ρ2 σ ev S3 (re2.evo ev S2.liv)
            · exact p2.elim
      · exact p2.elim
    · exact p2.elim
  · exact p2.elim
/-! ### displays -/
structure MD (X : Cx) (C : MC) (E : XK) (pos : Pos) (keys : List (Option Expr)) (values : List Expr) (ks : List Key) (m : Ax) : Prop where
  ex : ∃ trs, PPs X pos keys values trs ∧ ∀ (σ : St) (H : Hp) (ρ : Pl) (st : Sto) (env : En) (Q : List (V × V) → Hp → Prop), RelE C.K H ρ st σ env → RelS C H ρ st →
    Post (relWs C) C E H ρ st (m env st) (fun vs H' => ks.length = vs.length ∧ Q ((ks.zip vs).map fun p => (kV p.1, p.2)) H') → tPairs trs σ H Q
theorem md_nil : MD X C E pos [] [] [] axn := ⟨[], pps_nil, fun σ H ρ st env Q re S p => (p H ρ [] (Evo.refl ..) S .nil).2⟩
theorem md_cons {k : Str} {jj : Nat} {kp : Pos} {ks' : List (Option Expr)} {vs' : List Expr} {v : Expr} {mv : Ex} {ks : List Key} {m : Ax} (hv : ME X C E v mv) (hr : MD X C E pos ks' vs' ks m) :
    MD X C E pos (some (.Constant (.str k) jj kp) :: ks') (v :: vs') (.inr k :: ks) (axc mv m) := by
  obtain ⟨trs, h1, h2⟩ := hr.ex
  refine ⟨(tC (.str k), tM C E mv) :: trs, pps_cons pe_str hv h1, fun σ H ρ st env Q re S p => ?_⟩
  refine ⟨ρ, st, env, re, S, Post.bind p fun x s1 H1 ρ1 u _ e1 S1 r1 p1 => ?_⟩
  refine h2 σ H1 ρ1 s1 env _ (re.evo e1 S.liv) S1 ?_
  refine Post.bind p1 fun xs s2 H2 ρ2 us _ e2 S2 r2 p2 => ?_
  have q := p2 H2 ρ2 (u :: us) (Evo.refl ..) S2 (.cons (r1.evo e2 S1.liv) r2)
  exact ⟨by have := q.1; simpa using this, q.2⟩
def ddE (ks : List Key) (m : Ax) : Ex := fun env st => (m env st).bind fun ws s => if ws.length = ks.length then .ok (.loc s.length) (s ++ [.dct (ks.zip ws)]) else .no
theorem merge_zip : ∀ (kvs acc : List (Key × V)), ((acc ++ kvs).map (·.1)).Nodup → mergeK acc kvs = acc ++ kvs
  | [], acc, _ => by simp [mergeK]
  | p :: r, acc, nd => by
    have nk : p.1 ∉ acc.map (·.1) := fun hm => by
      rw [List.map_append, List.map_cons] at nd
      exact (List.nodup_append.mp nd).2.2 p.1 hm p.1 (by simp) rfl
    show mergeK (putK acc p.1 p.2) r = _
    rw [put_new nk, merge_zip r _ (by simpa using nd)]
    simp
theorem me_dd {keys : List (Option Expr)} {values : List Expr} {ks : List Key} {m : Ax} (h : MD X C E pos keys values ks m) (nd : ks.Nodup) (hk15 : ks.length ≤ 15) (hall : keys.all (·.isSome) = true) (hl : keys.length = values.length) (h0 : keys ≠ []) (h15 : keys.length ≤ 15) : ME X C E (.Dict keys values pos) (ddE ks m) := by
  obtain ⟨trs, h1, h2⟩ := h.ex
  refine PE.imp (pe_disp h1 hall hl h0 h15) fun σ H Q ⟨ρ, st, env, re, S, p⟩ => fun D hD => ?_
  have ev0 : Evo H ρ st (upd H D (.dK [])) (ρ.hide D) st := Evo.hide hD
  have S0 : RelS C (upd H D (.dK [])) (ρ.hide D) st := S.hide hD trivial
  refine h2 σ _ (ρ.hide D) st env _ (re.evo ev0 S.liv) S0 ?_
  refine Post.bindAt p ev0 fun ws s1 H1 ρ1 vs _ e1 S1 r1 p1 => ?_
  split at p1
  · rename_i hlen
    have hD1 : D ∈ ρ1.hd := e1.oldh D (List.mem_cons_self ..)
    have hvl : ks.length = vs.length := by rw [r1.length]; exact hlen.symm
    have hH1 : H1 D = some (.dK []) := e1.keep D _ upd_same (fun l q => absurd q ((S.fresh hD).1 l))
    have ev := ev0.trans e1
    refine ⟨hvl, hH1, ks.zip vs, rfl, by rw [List.length_zip]; omega, ?_⟩
    have hm : mergeK [] (ks.zip vs) = ks.zip vs := by
      rw [merge_zip]
      · rfl
      · rw [List.nil_append, List.map_fst_zip (by omega)]; exact nd
    rw [hm]
    have S2 : RelS C (upd H1 D (.dK (ks.zip vs))) ρ1 s1 := S1.hidw hD1 trivial
    have rk : RepK C.K (upd H1 D (.dK (ks.zip vs))) ρ1 s1 (ks.zip vs) (ks.zip ws) := RepK.zip (r1.hidw hD1 ⟨_, hH1, trivial⟩)
    refine p1 _ ((ρ1.show D).add D) _ ⟨fun l a h => ?_, fun l h => ?_, fun a o h nl => ?_, fun l a h => ?_, fun a h => ?_, fun a h => ev.newh a (show_sub h), fun a h => show_mem (ev.oldh a h) fun z => ?_⟩ (S2.placedD hD1 upd_same rk) ?_
    · exact add_old (ρ := ρ1.show D) (ev.pre l a h)
    · rw [List.getElem?_append_left (List.getElem?_eq_some_iff.mp (ev.dd l h)).1]
      exact ev.dd l h
    · rw [upd_ne (ne_of_none h hD)]
      exact ev.keep a o h nl
    · rcases add_at (ρ := ρ1.show D) h with h | ⟨_, h⟩
      · exact ev.new l a h
      · rw [h]; exact .inr hD
    · by_cases z : a = D
      · rw [z]; exact hD
      · rw [upd_ne z] at h; exact ev.dom a h
    · obtain ⟨⟨u, e, _⟩, _⟩ := S.hid a h
      rw [z, hD] at e; cases e
    · refine .loc ?_
      rw [← S1.len]
      exact add_new (ρ := ρ1.show D)
  · exact p1.elim
/-! ### how it computes -/
def dctO (ks : List Key) (ws : List W) : O := .dct (ks.zip ws)
theorem zip_len {ks : List Key} {ws : List W} (hl : ws.length ≤ ks.length) : (ks.zip ws).length = ws.length := by rw [List.length_zip]; omega
theorem zip_pre {ks : List Key} {ws : List W} (hl : ws.length ≤ ks.length) : preK ks (ks.zip ws) := by
  refine ⟨?_, by rw [zip_len hl]; exact hl⟩
  rw [zip_len hl]
  induction ks generalizing ws with
  | nil => simp
  | cons k ks ih =>
    cases ws with
    | nil => simp
    | cons w ws => simp [ih (ws := ws) (by simpa using hl)]
theorem zip_get {ks : List Key} {ws : List W} {j : Nat} {w : W} (hl : ws.length ≤ ks.length) (hj : ws[j]? = some w) : ∃ k, (ks.zip ws)[j]? = some (k, w) := by
  have h1 := (List.getElem?_eq_some_iff.mp hj).1
  have h2 : j < ks.length := by omega
  refine ⟨ks[j], List.getElem?_zip_eq_some.mpr ⟨List.getElem?_eq_getElem h2, hj⟩⟩
theorem zip_set {ks : List Key} {ws : List W} {j : Nat} {k : Key} {w : W} (hk : ks[j]? = some k) : (ks.zip ws).set j (k, w) = ks.zip (ws.set j w) := by
  induction ks generalizing ws j with
  | nil => simp
  | cons a ks ih =>
    cases ws with
    | nil => simp
    | cons b ws =>
      cases j with
      | zero => simp at hk; subst hk; simp
      | succ j => simp [ih (ws := ws) (by simpa using hk)]
theorem zip_snoc {ks : List Key} {ws : List W} {k : Key} {w : W} (hk : ks[ws.length]? = some k) : ks.zip ws ++ [(k, w)] = ks.zip (ws ++ [w]) := by
  induction ks generalizing ws with
  | nil => simp at hk
  | cons a ks ih =>
    cases ws with
    | nil => simp at hk; subst hk; simp
    | cons b ws => simp [ih (ws := ws) (by simpa using hk)]
theorem dg_ok {ks : List Key} {ws : List W} {s : Sto} {l j : Nat} {w : W} (h : s[l]? = some (dctO ks ws)) (hl : ws.length ≤ ks.length) (hj : ws[j]? = some w) : dgW ks j (.loc l) s = .ok w s := by
  obtain ⟨k, hk⟩ := zip_get hl hj
  unfold dgW dctO at *
  simp only [h]
  rw [if_pos (ck_iff.mpr (zip_pre hl)), hk]
theorem dp_set {ks : List Key} {ws : List W} {s : Sto} {l j : Nat} {k : Key} {w : W} (h : s[l]? = some (dctO ks ws)) (hl : ws.length ≤ ks.length) (hj : j < ws.length) (hk : ks[j]? = some k) : dpW ks j k (.loc l) w s = .ok () (s.set l (dctO ks (ws.set j w))) := by
  unfold dpW dctO at *
  simp only [h]
  rw [if_pos (ck_iff.mpr (zip_pre hl)), zip_len hl, if_pos hj, zip_set hk]
theorem dp_new {ks : List Key} {ws : List W} {s : Sto} {l j : Nat} {k : Key} {w : W} (h : s[l]? = some (dctO ks ws)) (hl : ws.length ≤ ks.length) (hj : j = ws.length) (hk : ks[j]? = some k) : dpW ks j k (.loc l) w s = .ok () (s.set l (dctO ks (ws ++ [w]))) := by
  subst hj
  unfold dpW dctO at *
  simp only [h]
  rw [if_pos (ck_iff.mpr (zip_pre hl)), zip_len hl, if_neg (by omega), if_pos rfl, zip_snoc hk]
theorem dd_ok {ks ks' : List Key} {m : Ax} {env : En} {st s : Sto} {ws : List W} (h : m env st = .ok ws s) (hl : ws.length = ks'.length) (hk : ks' = ks.take ks'.length) : ddE ks' m env st = .ok (.loc s.length) (s ++ [dctO ks ws]) := by
  unfold ddE
  rw [h, R.bind_ok, if_pos hl]
  congr 3
  show O.dct _ = O.dct _
  congr 1
  rw [hk]
  clear hk h
  induction ks generalizing ks' ws with
  | nil => simp
  | cons a ks ih =>
    cases ws with
    | nil => simp
    | cons b ws =>
      cases ks' with
      | nil => simp at hl
      | cons c ks' => simp at hl ⊢; exact ih hl
end
end
end ML

/-! ML19: errors: raise, try .. except, isinstance of an error, defs that may raise; f-strings -/
namespace ML
open PySem L2
noncomputable section

/-! ### nothing raised -/
def R.nox {α : Type} (r : R α) : R α := match r with
  | .ok a s => .ok a s
  | _ => .no
@[simp] theorem R.nox_ok {α : Type} (a : α) (s : Sto) : (R.ok a s).nox = .ok a s := rfl
@[simp] theorem R.nox_no {α : Type} : (R.no : R α).nox = .no := rfl
@[simp] theorem R.nox_ite {α : Type} (c : Prop) [Decidable c] (a b : R α) : (if c then a else b).nox = if c then a.nox else b.nox := by split <;> rfl
def SR.nox (r : SR) : SR := match r with
  | .ex _ _ => .no
  | r => r
@[simp] theorem SR.nox_nx (e : En) (s : Sto) : (SR.nx e s).nox = .nx e s := rfl
@[simp] theorem SR.nox_rt (e : W) (s : Sto) : (SR.rt e s).nox = .rt e s := rfl
@[simp] theorem SR.nox_bk (e : En) (s : Sto) : (SR.bk e s).nox = .bk e s := rfl
@[simp] theorem SR.nox_ct (e : En) (s : Sto) : (SR.ct e s).nox = .ct e s := rfl
@[simp] theorem SR.nox_no : SR.no.nox = .no := rfl
@[simp] theorem SR.nox_ite (c : Prop) [Decidable c] (a b : SR) : (if c then a else b).nox = if c then a.nox else b.nox := by split <;> rfl
def nxA (m : Ax) : Ax := fun env st => (m env st).nox
def nxE (m : Ex) : Ex := fun env st => (m env st).nox
def nxS (m : Sx) : Sx := fun env st => (m env st).nox
section
variable {α β : Type} {rel : Hp → Pl → Sto → β → α → Prop} {C : MC} {E : XK} {H : Hp} {ρ : Pl} {st : Sto}
theorem Post.nox {r : R α} {Q : β → Hp → Prop} (h : Post rel C E H ρ st r.nox Q) : Post rel C E0 H ρ st r Q := by
  cases r with
  | ok w s => exact h
  | ex c s => exact False.elim h
  | no => exact h
theorem PostS.nox {r : SR} {D : Ends} (h : PostS C E H ρ st r.nox D) : PostS C E0 H ρ st r D := by
  cases r with
  | ex c s => exact False.elim h
  | nx _ _ => exact h
  | rt _ _ => exact h
  | bk _ _ => exact h
  | ct _ _ => exact h
  | no => exact h
end
section
variable {X : Cx} {C : MC} {E : XK}
theorem PS.nox {s : Stmt} {t : TS} (h : PS X.nox s t) : PS X s t := ⟨fun pins s σ H D I hw =>
  wpAny_mono (h.run pins s σ H D (I.wish _) hw) (fun _ _ q => q.unwish) fun _ _ z => False.elim z⟩
theorem me_nx {e : Expr} {m : Ex} (h : ME X.nox C E0 e m) : ME X C E e (nxE m) :=
  PE.imp (PE.nox h) fun σ H Q ⟨ρ, st, env, re, S, p⟩ => ⟨ρ, st, env, re, S, Post.nox p⟩
theorem ms_nx {s : Stmt} {m : Sx} (h : MS X.nox C E0 s m) : MS X C E s (nxS m) :=
  PS.imp (PS.nox h) fun D σ H ⟨ρ, st, env, re, S, p⟩ => ⟨ρ, st, env, re, S, PostS.nox p⟩
theorem mss_nx {s : List Stmt} {m : Sx} (h : MSs X.nox C E0 s m) : MSs X C E s (nxS m) :=
  PSs.imp (PSs.nox h) fun D σ H ⟨ρ, st, env, re, S, p⟩ => ⟨ρ, st, env, re, S, PostS.nox p⟩
end

/-! ### f-strings -/
def fmE (m : Ex) : Ex := fun env st => (m env st).bind fun w s => match w with
  | .int i => if ck (i.natAbs.log2 < 1920) then .ok (.str (toString i)) s else .no
  | .str y => if ck (y.length ≤ sizeLine) then .ok (.str y) s else .no
  | _ => .no
def jsX : List Ex → Str → En → Sto → R W
  | [], acc, _, s => .ok (.str acc) s
  | m :: ms, acc, env, s => (m env s).bind fun w s1 => match w with
    | .str y => if ck ((acc ++ y).length ≤ sizeLine) then jsX ms (acc ++ y) env s1 else .no
    | _ => .no
def jsE (ms : List Ex) : Ex := fun env st => jsX ms Str.empty env st
section
variable {X : Cx} {C : MC} {E : XK}
theorem me_fmt {e : Expr} {m : Ex} {pos : Pos} (h : ME X C E e m) : ME X C E (.FormattedValue e (-1) none pos) (fmE m) := by
  refine PE.imp (pe_fmt h) fun σ H Q ⟨ρ, st, env, re, S, p⟩ => ⟨ρ, st, env, re, S, Post.bind p fun w s1 H1 ρ1 v _ e1 S1 r1 p1 => ?_⟩
  cases r1 with
  | int i =>
    dsimp only at p1
    by_cases c : ck (i.natAbs.log2 < 1920) = true
    · rw [if_pos c] at p1
      exact .inr ⟨i, rfl, ck_iff.mp c, p1 H1 ρ1 _ (Evo.refl ..) S1 (.str _)⟩
    · rw [if_neg c] at p1; exact p1.elim
  | str y =>
    dsimp only at p1
    by_cases c : ck (y.length ≤ sizeLine) = true
    · rw [if_pos c] at p1
      exact .inl ⟨y, rfl, ck_iff.mp c, p1 H1 ρ1 _ (Evo.refl ..) S1 (.str _)⟩
    · rw [if_neg c] at p1; exact p1.elim
  | non => exact p1.elim
  | bl _ => exact p1.elim
  | raw _ => exact p1.elim
  | tup _ _ => exact p1.elim
  | fl _ _ _ => exact p1.elim
  | kl _ _ => exact p1.elim
  | loc _ => exact p1.elim
/-- the parts of an f-string -/
inductive MJ (X : Cx) (C : MC) (E : XK) : List Expr → List Ex → Prop where
  | nil : MJ X C E [] []
  | cons {e : Expr} {m : Ex} {es : List Expr} {ms : List Ex} (h : ME X C E e m) (r : MJ X C E es ms) : MJ X C E (e :: es) (m :: ms)
theorem MJ.pj {es : List Expr} {ms : List Ex} (h : MJ X C E es ms) : PJ X es (ms.map (tM C E)) := by
  induction h with
  | nil => exact .nil
  | cons h r ih => exact .cons h ih
theorem js_of : ∀ (ms : List Ex) (acc : Str) (σ : St) (env : En) (H : Hp) (ρ : Pl) (st : Sto) (Q : Str → Hp → Prop) (Q' : VK), RelE C.K H ρ st σ env → RelS C H ρ st → Post (relW C) C E H ρ st (jsX ms acc env st) Q' → (∀ y H, Q' (.str y) H → Q y H) → tJs (ms.map (tM C E)) acc σ H Q
  | [], acc, σ, env, H, ρ, st, Q, Q', re, S, p, k => k _ _ (p H ρ _ (Evo.refl ..) S (.str _))
  | m :: ms, acc, σ, env, H, ρ, st, Q, Q', re, S, p, k => ⟨ρ, st, env, re, S, Post.bind p fun w s1 H1 ρ1 v _ e1 S1 r1 p1 => by
      cases r1 with
      | str y =>
        dsimp only at p1
        by_cases c : ck ((acc ++ y).length ≤ sizeLine) = true
        · rw [if_pos c] at p1
          exact ⟨y, rfl, ck_iff.mp c, js_of ms (acc ++ y) σ env H1 ρ1 s1 Q Q' (re.evo e1 S.liv) S1 p1 k⟩
        · rw [if_neg c] at p1; exact p1.elim
      | int i => exact p1.elim
      | non => exact p1.elim
      | bl _ => exact p1.elim
      | raw _ => exact p1.elim
      | tup _ _ => exact p1.elim
      | fl _ _ _ => exact p1.elim
      | kl _ _ => exact p1.elim
      | loc _ => exact p1.elim⟩
theorem me_joined {v1 v2 : Expr} {rest : List Expr} {ms : List Ex} {pos : Pos} (h : MJ X C E (v1 :: v2 :: rest) ms) : ME X C E (.JoinedStr (v1 :: v2 :: rest) pos) (jsE ms) :=
  PE.imp (pe_joined h.pj) fun σ H Q ⟨ρ, st, env, re, S, p⟩ => js_of ms Str.empty σ env H ρ st _ Q re S p fun _ _ q => q
end

/-! ### raise -/
def raS (c : Nat) (mr : Ax) : Sx := fun env st => (mr env st).toS fun _ s => .ex c s
section
variable {X : Cx} {C : MC} {E : XK}
theorem ms_raise {c : Nat} {Cd : Addr} {bmB : List Value} {B newId initId : String} {x : Str} {p pos pos' : Pos} {e : Expr} {es : List Expr} {mr : Ax} (hc : X.calm = true) (tk : Takes X (fun cls d _ H => E cls d H)) (hx : C.exn[c]? = some Cd)
    (F : ExcBaseFacts B newId initId bmB) (q : PySem.W.excIn X.K Cd bmB newId = true) (gC : X.mg x = some (.ref Cd)) (kC : PySem.W.keepIn X.K (.ref Cd) = true) (r1 : PySem.W.subIn X.K (.ref Cd) (.type "BaseException") = some true) (r2 : PySem.W.typeIn X.K (.ref Cd) = some (.type "type"))
    (hg : Gl X x) (ha : MA' X C E (e :: es) mr) (hl : (e :: es).length ≤ 1000 := by decide) (hdb : (x == ("__debug__" : Str)) = false := by decide)
    (he : starEach (e :: es) X.env = (false, eval e X.env) :: starEach es X.env := by rfl) (hpl : (backTo pos (starEach es X.env)).any (·.1) = false := by rfl) :
    MS X C E (.Raise (some (.Call (.Name x p) (e :: es) [] pos)) none pos') (raS c mr) := by
  refine PS.imp (ps_raise hc tk (pmk_ownA F q gC kC (raises_own r1 r2) hg ha.pa hdb he hpl)) fun D σ H ⟨ρ, st, env, re, S, p⟩ => ⟨ρ, st, env, re, S, PostS.bind p fun ws s1 H1 ρ1 vs hw e1 S1 q1 p1 => ⟨?_, ?_⟩⟩
  · rw [q1.length, ha.ln _ _ _ _ hw]
    exact Nat.le_trans hl (by decide)
  · exact p1 H1 ρ1 _ (Evo.refl ..) S1 hx
end

/-! ### defs that may raise -/
def spX (C : MC) (n : Nat) (d : List W → Sto → R W) : Sp := fun vs H Q E => vs.length = n ∧ ∃ ρ st ws, RepL C.K H ρ st vs ws ∧ RelS C H ρ st ∧ Post (relW C) C E H ρ st (d ws st) Q
theorem fn_okX {P : Program} {w : World} {K : PySem.W.Frag} {mg : Str → Option Value} {base : Heap} {C : MC} {k n : Nat} {f : Addr} {x qual : Str} {s : Stmt} {fd : FuncData} {N ps : List Str} {m : Sx} (F : Fun K x qual s f fd) (S : FnScope N ps (defScope s)) (hK : C.K = K) (hn : ps.length = n)
    (body : ∀ (cdv : Value) (A : Around) (outer : List Env) (sh : Shared) (H : Hp) (E : XK), Room k (A.deeper (PyProof.Rows.envOfC qual (defScope s) sh.heap.objs.size f cdv)) → MSs (cxOf (L2.CX P w) P w K mg base N qual (defScope s) f cdv A outer sh H E) C E (defBody s) m) :
    FnOk P w K mg base (L2.CX P w) (k + 1) f fd ps (spX C n (bodyD N.length m)) := by
  refine F.okX S (fun vs H Q E h => by rw [hn]; exact h.1) fun cdv A outer sh H vs Q E hr ⟨hl, ρ, st, ws, r, S, p⟩ => ⟨tMS C E m, body cdv A outer sh H E hr, ρ, st, pad N.length ws, .start r, S, ?_⟩
  unfold bodyD at p
  cases h : m (pad N.length ws) st with
  | nx e s => rw [h] at p; exact fun H' ρ' σ' e' S' _ => p H' ρ' .non e' S' .non
  | rt w s => rw [h] at p; exact p
  | ex c s => rw [h] at p; exact p
  | bk e s => rw [h] at p; exact p.elim
  | ct e s => rw [h] at p; exact p.elim
  | no => rw [h] at p; exact p.elim
/-- as fn_gz -/
theorem fn_gzX {P : Program} {w : World} {K : PySem.W.Frag} {mg : Str → Option Value} {base : Heap} {CX : CXT} {C : MC} {k n : Nat} {f : Addr} {fd : FuncData} {ps : List Str} {d d' : List W → Sto → R W} (F : FnOk P w K mg base CX k f fd ps (spX C n d)) (g : Gz n d d') :
    FnOk P w K mg base CX k f fd ps (spX C n d') := by
  refine F.imp fun vs H Q E ⟨hl, ρ, st, ws, r, S, p⟩ => ⟨hl, ρ, st, ws, r, S, ?_⟩
  have q := g ws st (by rw [← r.length]; exact hl) (by rw [← S.len]; exact r.wf)
  cases e : d' ws st with
  | no => rw [e] at p; exact p.elim
  | ex c s => rw [e] at p q; rw [q]; exact p
  | ok x st' =>
    rw [e] at p q
    obtain ⟨w0, s2, kk, h1, h2, h3, h4⟩ := q
    rw [h1]
    intro H' ρ' v ev S' rv
    have c : Cut ρ' (st' ++ s2) st'.length ⟨ρ'.pl.take st'.length, ρ'.hd⟩ st' := by
      have ln := S'.len
      rw [List.length_append] at ln
      refine ⟨fun l hl => by simp [List.getElem?_take, hl], fun l hl => by rw [List.getElem?_append_left hl], ?_, rfl, rfl⟩
      show (ρ'.pl.take st'.length).length = _
      rw [List.length_take]
      omega
    refine p H' ⟨ρ'.pl.take st'.length, ρ'.hd⟩ v ⟨fun l a h => ?_, fun l h => ?_, ev.keep, fun l a h => ?_, ev.dom, ev.newh, ev.oldh⟩ (S'.cut c fun l o e2 => ?_) (fz_rep S' c kk v w0 x rv h3)
    · have hl : l < st'.length := by
        have := (List.getElem?_eq_some_iff.mp h).1
        rw [S.len] at this
        omega
      rw [c.pl l hl]
      exact ev.pre l a h
    · have hl : l < st'.length := by
        have := (List.getElem?_eq_some_iff.mp h).1
        omega
      rw [c.st l hl]
      exact ev.dd l h
    · have hl := (List.getElem?_eq_some_iff.mp h).1
      rw [c.lp] at hl
      rw [c.pl l hl] at h
      exact ev.new l a h
    · rcases h4 l o e2 with q | q
      · exact O.wf_mono h2 (S.wf q)
      · exact q

/-! ### calls of defs that may raise -/
section
variable {X : Cx} {C : MC} {e : Expr} {es : List Expr} {mr : Ax} {k : Nat} {f : Addr} {fd : FuncData} {ps : List Str} {x : Str} {p pos : Pos} {d : List W → Sto → R W}
/-- nothing is raised here -/
theorem me_callX {n : Nat} (F : FnOk X.prog X.w X.K X.mg X.base (L2.CX X.prog X.w) k f fd ps (spX C n d)) (hr : Room k X.A) (hg : Gl X x) (hm : X.mg x = some (.ref f)) (hk : PySem.W.keepIn X.K (.ref f) = true) (hb : Binds X.K fd ps []) (hn : (e :: es).length = n)
    (ha : MA' X C E0 (e :: es) mr) (hdb : (x == ("__debug__" : Str)) = false := by decide) (he : starEach (e :: es) X.env = (false, eval e X.env) :: starEach es X.env := by rfl) (hpl : (backTo pos (starEach es X.env)).any (·.1) = false := by rfl) :
    ME X C E0 (.Call (.Name x p) (e :: es) [] pos) (clE d mr) := by
  refine PE.imp (pe_call F hr hg hm hk hb .nil passL ha.pa hdb he hpl) fun σ H Q ⟨ρ, st, env, re, S, p⟩ => ⟨ρ, st, env, re, S, Post.bind p fun ws s1 H1 ρ1 vs hw e1 S1 r1 p1 => ?_⟩
  rw [List.append_nil]
  exact ⟨by rw [r1.length, ha.ln _ _ _ _ hw, hn], ρ1, s1, ws, r1, S1, p1⟩
def tMW (C : MC) (Wx : WX) (m : Ex) : TE := fun σ H Q => tM C (WE Wx σ) m σ H Q
def tMSW (C : MC) (Wx : WX) (m : Sx) : TS := fun D σ H => tMS C (WE Wx σ) m D σ H
theorem nox_eq {α : Type} {r : R α} {a : α} {s : Sto} (h : r.nox = .ok a s) : r = .ok a s := by
  cases r with
  | ok b t => exact h
  | ex c t => cases h
  | no => cases h
/-- in a try, or in a def that may raise -/
theorem mew_call {Wx : WX} {n : Nat} (tk : Takes X Wx) (F : FnOk X.prog X.w X.K X.mg X.base (L2.CX X.prog X.w) k f fd ps (spX C n d)) (hr : Room k X.A) (hg : Gl X x) (hm : X.mg x = some (.ref f)) (hk : PySem.W.keepIn X.K (.ref f) = true) (hb : Binds X.K fd ps []) (hn : (e :: es).length = n)
    (ha : MA' X C E0 (e :: es) mr) (hdb : (x == ("__debug__" : Str)) = false := by decide) (he : starEach (e :: es) X.env = (false, eval e X.env) :: starEach es X.env := by rfl) (hpl : (backTo pos (starEach es X.env)).any (·.1) = false := by rfl) :
    PE X (.Call (.Name x p) (e :: es) [] pos) (tMW C Wx (clE d (nxA mr))) := by
  refine PE.imp (pe_callS F hr hg hm hk hb (fun σ => passAt tk σ) ha.pa hdb he hpl) fun σ H Q ⟨ρ, st, env, re, S, p⟩ => ⟨ρ, st, env, re, S, Post.nox (E := WE Wx σ) (Post.bind p fun ws s1 H1 ρ1 vs hw e1 S1 r1 p1 => ?_)⟩
  exact ⟨by rw [r1.length, ha.ln _ _ _ _ (nox_eq hw), hn], ρ1, s1, ws, r1, S1, p1⟩
end
/-! ### try -/
section
variable {X : Cx} {C : MC} {Wx : WX} {e : Expr} {m : Ex} {m1 m2 : Sx} {s : Stmt} {ss : List Stmt} {pos : Pos}
theorem msw_expr (h : PE X e (tMW C Wx m)) (hs : swapsWith e none pos.line X.env = pure false := by rfl) : PS X (.Expr e pos) (tMSW C Wx (exS m)) :=
  PS.imp (ps_expr h hs) fun D σ H ⟨ρ, st, env, re, S, p⟩ => ⟨ρ, st, env, re, S, PostS.bind p fun w s1 H1 ρ1 v hw e1 S1 r1 p1 => p1 H1 ρ1 σ (Evo.refl ..) S1 (re.evo e1 S.liv)⟩
theorem msw_ret (h : PE X e (tMW C Wx m)) : PS X (.Return (some e) pos) (tMSW C Wx (rtS m)) :=
  PS.imp (ps_ret h) fun D σ H ⟨ρ, st, env, re, S, p⟩ => ⟨ρ, st, env, re, S, PostS.bind p fun w s1 H1 ρ1 v hw e1 S1 r1 p1 => p1 H1 ρ1 v (Evo.refl ..) S1 r1⟩
theorem mssw_one (h : PS X s (tMSW C Wx m1)) : PSs X [s] (tMSW C Wx m1) := pss_one h
theorem mssw_cons (h1 : PS X s (tMSW C Wx m1)) (h2 : MSs X.nox C E0 ss m2) : PSs X (s :: ss) (tMSW C Wx (sqS m1 (nxS m2))) := by
  refine PSs.imp (pss_cons h1 (PSs.nox h2)) fun D σ H ⟨ρ, st, env, re, S, p⟩ => ⟨ρ, st, env, re, S, ?_⟩
  unfold sqS at p
  cases h : m1 env st with
  | nx env' st' => rw [h] at p; exact fun H' ρ' σ' e' S' re' => ⟨ρ', st', env', re', S', PostS.nox (PostS.shift p e')⟩
  | rt w st' => rw [h] at p; exact p
  | bk w st' => rw [h] at p; exact p
  | ct w st' => rw [h] at p; exact p
  | ex c st' => rw [h] at p; exact p
  | no => rw [h] at p; exact p
/-- (f(..), e): a call first, then what raises nothing -/
def tpWE (m : Ex) (mr : Ax) : Ex := fun env st => (m env st).bind fun w s => ((mr env s).nox).bind fun ws s1 => .ok (.tup (w :: ws)) s1
theorem mew_tup {a : Expr} {es : List Expr} {mr : Ax} {x1 : Nat} (h : PE X a (tMW C Wx m)) (hr : MA' X.nox C E0 es mr) (hl : (a :: es).length ≤ 1000 := by decide) (hs : starEach (a :: es) X.env = (false, eval a X.env) :: starEach es X.env := by rfl) :
    PE X (.Tuple (a :: es) x1 pos) (tMW C Wx (tpWE m mr)) := by
  have hpa : PA X es (tMA C E0 mr) := ⟨fun ps pins s σ H Q I hw => wpAny_mono (hr.pa.run ps pins s σ H Q (I.wish _) hw) (fun _ _ ⟨v, H', I', r, q⟩ => ⟨v, H', I'.unwish, r, q⟩) fun _ _ z => False.elim z⟩
  refine PE.imp (pe_tup (pa_cons h hpa hs)) fun σ H Q ⟨ρ, st, env, re, S, p⟩ => ⟨ρ, st, env, re, S, Post.bind p fun x s1 H1 ρ1 v hx e1 S1 r1 p1 => ?_⟩
  refine ⟨ρ1, s1, env, re.evo e1 S.liv, S1, Post.nox (E := WE Wx σ) (Post.bind p1 fun xs s2 H2 ρ2 vs hx2 e2 S2 r2 p2 => ⟨?_, fun q hq => ?_⟩)⟩
  · rw [List.length_cons, r2.length, hr.ln _ _ _ _ (nox_eq hx2)]
    exact Nat.le_trans hl (by decide)
  · exact p2 _ ρ2 _ (Evo.laid hq) (S2.laid hq) (tup_new S2 hq (.cons (r1.evo e2 S1.liv) r2))
end
/-- what does not ask where the error lies -/
def allA (f : Addr → SR) : SR := open Classical in if h : ∃ r, ∀ a, f a = r then choose h else .no
@[simp] theorem allA_const (r : SR) : allA (fun _ => r) = r := by
  unfold allA
  have h : ∃ r', ∀ _ : Addr, r = r' := ⟨r, fun _ => rfl⟩
  rw [dif_pos h]
  exact (Classical.choose_spec h 0).symm
theorem allA_at {C : MC} {E : XK} {H : Hp} {ρ : Pl} {st : Sto} {D : Ends} {f : Addr → SR} (h : PostS C E H ρ st (allA f) D) (a : Addr) : PostS C E H ρ st (f a) D := by
  unfold allA at h
  split at h
  · rename_i q
    rw [Classical.choose_spec q a]
    exact h
  · exact h.elim
/-- behind the suite the error's name is gone -/
def clrS (i : Nat) (r : SR) : SR := match r with
  | .nx e s => .nx (e.set i none) s
  | .bk e s => .bk (e.set i none) s
  | .ct e s => .ct (e.set i none) s
  | .rt w s => .rt w s
  | _ => .no
@[simp] theorem clrS_nx (i : Nat) (e : En) (s : Sto) : clrS i (.nx e s) = .nx (e.set i none) s := rfl
@[simp] theorem clrS_rt (i : Nat) (e : W) (s : Sto) : clrS i (.rt e s) = .rt e s := rfl
def tryAS (hit : Nat → Bool) (i : Nat) (mb : Sx) (msu : Nat → Addr → Sx) : Sx := fun env st => match mb env st with
  | .ex c s => if hit c = true then allA fun a => clrS i (msu c a (env.set i (some (.raw (.ref a)))) s) else .no
  | r => r
def tryS (hit : Nat → Bool) (mb msu : Sx) : Sx := fun env st => match mb env st with
  | .ex c s => if hit c = true then nxS msu env s else .no
  | r => r
section
variable {X : Cx} {C : MC} {E : XK}
theorem RelE.unset {K : PySem.W.Frag} {H : Hp} {ρ : Pl} {st : Sto} {σ : St} {env : En} (h : RelE K H ρ st σ env) (i : Nat) : RelE K H ρ st (σ.set i none) (env.set i none) := by
  refine ⟨by simp [h.1], fun j x e => ?_⟩
  by_cases z : i = j
  · subst z
    have hi : i < env.length := by
      have := (List.getElem?_eq_some_iff.mp e).1
      simpa using this
    rw [List.getElem?_set_self hi] at e
    cases e
  · rw [List.getElem?_set_ne z] at e
    obtain ⟨v, q, r⟩ := h.2 j x e
    exact ⟨v, by rw [List.getElem?_set_ne z]; exact q, r⟩
theorem xm_of {K : PySem.W.Frag} {A D : Addr} {b : Bool} (se : PySem.W.subIn K (.ref D) (.type "BaseException") = some true) (ci : PySem.W.isClsIn K D = true) (ti : PySem.W.typeIn K (.ref D) = some (.type "type")) (h4 : PySem.W.subIn K (.ref A) (.ref D) = some b) :
    PySem.W.exmOne K (.ref A) (.ref D) = some b := by
  have e1 : (PySem.W.subIn K (.ref D) (.type "BaseException") == some true) = true := by rw [se] <;> rfl
  have e2 : ((PySem.W.clsIn K D).isSome && PySem.W.typeIn K (.ref D) == some (.type "type")) = true := by
    have h2' : (PySem.W.clsIn K D).isSome = true := ci
    rw [h2', ti] <;> rfl
  show (if (PySem.W.subIn K (.ref D) (.type "BaseException") == some true) = true then (if ((PySem.W.clsIn K D).isSome && PySem.W.typeIn K (.ref D) == some (.type "type")) = true then PySem.W.subIn K (.ref A) (.ref D) else none) else none) = some b
  rw [if_pos e1, if_pos e2]
  exact h4
theorem ms_try_as {hit : Nat → Bool} {x n : Str} {c : Value} {i : Nat} {body suite : List Stmt} {b₀ : Stmt} {np pos pos' : Pos} {mb : Sx} {msu : Nat → Addr → Sx} (hs : X.stack = X.env :: X.outer) (hf : X.env.frame = some X.env.locals) (hN : X.N.Nodup) (hi : X.N[i]? = some n) (hln : X.env.kindOf n = some .local) (hc : Names X x c)
    (hx : ∀ (cc : Nat) (Ac : Addr), C.exn[cc]? = some Ac → PySem.W.exmOne X.K (.ref Ac) c = some (hit cc))
    (hb : ∀ (Wx : WX) (pn : List (Addr × Obj)) (xe : Value → Shared → Prop), Takes (X.tr pn xe) Wx → PSs (X.tr pn xe) body (tMSW C Wx mb))
    (hsu : ∀ (cc : Nat) (Ac : Addr), C.exn[cc]? = some Ac → ∀ (a : Addr) (oe : Obj) (pn : List (Addr × Obj)), Zc (.ref Ac) none oe → (∃ vs, oe.data = .fields vs) → MSs (X.suite a ((a, oe) :: pn)) C E0 (b₀ :: suite) (msu cc a)) :
    MS X C E (.Try body [.ExceptHandler (some (.Name x np)) (some n) (b₀ :: suite) pos'] [] [] pos) (tryAS hit i mb msu) := by
  refine PS.imp (ps_try_as (tb := fun Wx => tMSW C Wx mb) (ts := fun a cls d D σ H => ∃ cc Ac, C.exn[cc]? = some Ac ∧ cls = .ref Ac ∧ d = none ∧ tMS C E0 (msu cc a) D σ H) (Wout := fun _ _ _ _ => False) hs hf hN hi hln hc takes0
    (fun Wx pn xe tk _ => hb Wx pn xe tk) (fun a oe cls d pn hz hfi => ⟨fun pins s σ H D I ⟨cc, Ac, h1, h2, h3, h4⟩ => ?_⟩)) fun D σ H ⟨ρ, st, env, re, S, p⟩ => ⟨ρ, st, env, re, S, ?_⟩
  · subst h2 h3
    exact (hsu cc Ac h1 a oe pn hz hfi).run pins s σ H D I h4
  · unfold tryAS at p
    cases h : mb env st with
    | nx e s => rw [h] at p; exact p
    | rt e s => rw [h] at p; exact p
    | bk e s => rw [h] at p; exact p
    | ct e s => rw [h] at p; exact p
    | no => rw [h] at p; exact p
    | ex cc s =>
      rw [h] at p
      dsimp only at p
      intro H' ρ' Ac e' S' hA
      by_cases q : hit cc = true
      · rw [if_pos q] at p
        refine ⟨true, by rw [hx cc Ac hA, q], fun _ a na => ⟨cc, Ac, hA, rfl, rfl, ρ', s, _, (re.evo e' S.liv).set (.raw (.ref a)) i, S', ?_⟩, fun z => nomatch z⟩
        have p1 := PostS.shift (allA_at p a) e'
        cases g : msu cc a (env.set i (some (.raw (.ref a)))) s with
        | nx e s => rw [g] at p1; exact fun H2 ρ2 σ2 e2 S2 re2 => p1 H2 ρ2 _ e2 S2 (re2.unset i)
        | bk e s => rw [g] at p1; exact fun H2 ρ2 σ2 e2 S2 re2 => p1 H2 ρ2 _ e2 S2 (re2.unset i)
        | ct e s => rw [g] at p1; exact fun H2 ρ2 σ2 e2 S2 re2 => p1 H2 ρ2 _ e2 S2 (re2.unset i)
        | rt e s => rw [g] at p1; exact p1
        | ex c s => rw [g] at p1; exact p1.elim
        | no => rw [g] at p1; exact p1.elim
      · rw [if_neg q] at p; exact p.elim
theorem ms_try_only {hit : Nat → Bool} {x : Str} {c : Value} {body suite : List Stmt} {b₀ : Stmt} {np pos pos' : Pos} {mb msu : Sx} (hs : X.stack = X.env :: X.outer) (hf : X.env.frame = some X.env.locals) (hc : Names X x c)
    (hx : ∀ (cc : Nat) (Ac : Addr), C.exn[cc]? = some Ac → PySem.W.exmOne X.K (.ref Ac) c = some (hit cc))
    (hb : ∀ (Wx : WX) (pn : List (Addr × Obj)) (xe : Value → Shared → Prop), Takes (X.tr pn xe) Wx → PSs (X.tr pn xe) body (tMSW C Wx mb))
    (hsu : ∀ (a : Addr) (pn : List (Addr × Obj)), MSs (X.suite a pn) C E0 (b₀ :: suite) msu) :
    MS X C E (.Try body [.ExceptHandler (some (.Name x np)) none (b₀ :: suite) pos'] [] [] pos) (tryS hit mb msu) := by
  refine PS.imp (ps_try_only (tb := fun Wx => tMSW C Wx mb) (ts := fun a cls d D σ H => tMS C E0 msu D σ H) (Wout := fun _ _ _ _ => False) hs hf hc takes0
    (fun Wx pn xe tk _ => hb Wx pn xe tk) (fun a oe cls d pn hz hfi => hsu a _)) fun D σ H ⟨ρ, st, env, re, S, p⟩ => ⟨ρ, st, env, re, S, ?_⟩
  unfold tryS at p
  cases h : mb env st with
  | nx e s => rw [h] at p; exact p
  | rt e s => rw [h] at p; exact p
  | bk e s => rw [h] at p; exact p
  | ct e s => rw [h] at p; exact p
  | no => rw [h] at p; exact p
  | ex cc s =>
    rw [h] at p
    dsimp only at p
    intro H' ρ' Ac e' S' hA
    by_cases q : hit cc = true
    · rw [if_pos q] at p
      exact ⟨true, by rw [hx cc Ac hA, q], fun _ a na => ⟨ρ', s, env, re.evo e' S.liv, S', PostS.nox (PostS.shift p e')⟩, fun z => nomatch z⟩
    · rw [if_neg q] at p; exact p.elim
/-- isinstance(error, ..) -/
def isXE (a : Addr) (b : Bool) (ma : Ex) : Ex := fun env st => (ma env st).bind fun w s => if ck (w = .raw (.ref a)) then .ok (.bl b) s else .no
@[simp] theorem isXE_var {a : Addr} {b : Bool} {i : Nat} {env : En} {st : Sto} (h : env[i]? = some (some (.raw (.ref a)))) : isXE a b (vr i) env st = .ok (.bl b) st := by
  unfold isXE vr
  rw [h]
  exact if_pos (ck_iff.mpr rfl)
theorem me_isX {a Ac : Addr} {oe : Obj} {pn : List (Addr × Obj)} {b : Bool} {ea c : Expr} {ma : Ex} {cv : V} {ct : Value} {p pos : Pos} (Cx : ExcC X.K Ac) (hz : Zc (.ref Ac) none oe) (hf : ∃ vs, oe.data = .fields vs) (hk : PySem.W.kitOne X.K (.ref Ac) ct = some b)
    (hcv : ∀ u, RelV cv u → u = ct) (ha : ME (X.suite a ((a, oe) :: pn)) C E ea ma) (hc : PE (X.suite a ((a, oe) :: pn)) c (tC cv)) (hg : Gl (X.suite a ((a, oe) :: pn)) "isinstance") (hm : X.mg "isinstance" = none)
    (he : starEach [ea, c] X.env = (false, eval ea X.env) :: starEach [c] X.env := by rfl) (he2 : starEach [c] X.env = (false, eval c X.env) :: starEach [] X.env := by rfl) (hpl : (backTo pos (starEach [c] X.env)).any (·.1) = false := by rfl) :
    ME (X.suite a ((a, oe) :: pn)) C E (.Call (.Name "isinstance" p) [ea, c] [] pos) (isXE a b ma) := by
  refine PE.imp (pe_callB (call_isE Cx hz hf) hg hm (by decide +kernel) (pa_cons ha (pa_cons hc pa_nil he2) he) (by decide) (by decide) he hpl) fun σ H Q ⟨ρ, st, env, re, S, p⟩ => ⟨ρ, st, env, re, S, Post.bind p fun x s1 H1 ρ1 v _ e1 S1 r1 p1 => ?_⟩
  by_cases q : ck (x = .raw (.ref a)) = true
  · rw [if_pos q] at p1
    rw [ck_iff.mp q] at r1
    cases r1
    exact ⟨cv, ct, b, rfl, hcv, hk, p1 H1 ρ1 _ (Evo.refl ..) S1 (.bl _)⟩
  · rw [if_neg q] at p1; exact p1.elim
theorem kit_ownD {K : PySem.W.Frag} {A D : Addr} {b : Bool} (ci : PySem.W.isClsIn K D = true) (ti : PySem.W.typeIn K (.ref D) = some (.type "type")) (self : PySem.W.subIn K (.ref D) (.ref D) = some true) (h : PySem.W.subIn K (.ref A) (.ref D) = some b) : PySem.W.kitOne K (.ref A) (.ref D) = some b := by
  unfold PySem.W.kitOne
  by_cases e : A = D
  · subst e
    rw [self] at h
    rw [if_pos (by simp)]
    exact h
  · rw [if_neg (by simpa using e)]
    show (if ((PySem.W.clsIn K D).isSome && PySem.W.typeIn K (.ref D) == some (.type "type")) = true then PySem.W.subIn K (.ref A) (.ref D) else none) = some b
    unfold PySem.W.isClsIn at ci
    rw [if_pos (by rw [ci, ti]; simp), h]
theorem kit_tyD {K : PySem.W.Frag} {A : Addr} {T : String} {b : Bool} (hT : PySem.W.kitMeta T = true) (h : PySem.W.subIn K (.ref A) (.type T) = some b) : PySem.W.kitOne K (.ref A) (.type T) = some b := by
  unfold PySem.W.kitOne
  rw [if_neg (by intro q; simp at q)]
  show (if PySem.W.kitMeta T = true then PySem.W.subIn K (.ref A) (.type T) else none) = some b
  rw [if_pos hT, h]
end
/-! ### a table with text keys, of ints -/
def getS (tw : List (Str × Int)) (x : W) (s : Sto) : R W := match x with
  | .str z => match tw.lookup z with
    | some i => .ok (.int i) s
    | none => .no
  | _ => .no
section
variable {X : Cx} {C : MC} {E : XK} {ad : Addr} {tw : List (Str × Int)} {b : Expr} {mb : Ex} {x : Str} {p pos : Pos}
def KTabS (K : PySem.W.Frag) (w : World) (ad : Addr) (tw : List (Str × Int)) : Prop := ∀ z i, tw.lookup z = some i → KDct K w ad z (.int i)
theorem me_getS (T : KTabS X.K X.w ad tw) (hi : ME X C E b mb) (hg : Gl X x) (hm : X.mg x = some (.ref ad)) (hd : (x == ("__debug__" : Str)) = false := by decide) (hs : PlainIx b := by intro _ _; rfl) : ME X C E (.Subscript (.Name x p) b pos) (un (getS tw) mb) := by
  refine PE.imp (pe_ix ix_kdict (pe_glob hg hm (v := .ref ad) rfl hd) hi hs) fun σ H Q ⟨ρ, st, env, re, S, p⟩ => ⟨ρ, st, env, re, S, Post.bind p fun w s1 H1 ρ1 v _ e1 S1 r1 p1 => ?_⟩
  cases r1 with
  | str z =>
    unfold getS at p1
    cases e : tw.lookup z with
    | none => simp only [e] at p1; exact p1.elim
    | some i =>
      simp only [e] at p1
      exact ⟨ad, z, .int i, rfl, rfl, T z i e, p1 H1 ρ1 _ (Evo.refl ..) S1 (.int _)⟩
  | int i => exact p1.elim
  | non => exact p1.elim
  | bl _ => exact p1.elim
  | raw _ => exact p1.elim
  | tup _ _ => exact p1.elim
  | fl _ _ _ => exact p1.elim
  | kl _ _ => exact p1.elim
  | loc _ => exact p1.elim
theorem ktabS_nil {K : PySem.W.Frag} {w : World} : KTabS K w ad [] := fun z i h => by cases h
theorem ktabS_cons {K : PySem.W.Frag} {w : World} {k : Str} {j : Int} {r : List (Str × Int)} (h : KDct K w ad k (.int j)) (t : KTabS K w ad r) : KTabS K w ad ((k, j) :: r) := fun z i e => by
  rw [List.lookup_cons] at e
  cases q : z == k with
  | true => rw [q] at e; cases e; rw [beq_iff_eq.mp q]; exact h
  | false => rw [q] at e; exact t z i e
end
end
end ML

/-! ML20: xs.extend(a tuple) -/
namespace PySem
open PyProof.Rows AutoSeq1
theorem extend_tup_any (l : Addr) (items : Array Value) (n : Nat) (b : Addr) (items2 : Array Value) (n2 : Nat) (dd : Option Addr) (sl : Array (Option Value)) (hs0 : ¬(!items.isEmpty && Builtin.List.listTooLong (items.size + items2.size)) = true) (hs1 : items.size ≤ sizeLine) (hs2 : items.size + items2.size ≤ sizeLine + 1) :
    Meets (Builtin.«list.extend» ⟨[.ref l, .ref b], []⟩) (fun _ R s => s.heap.get? l = some { cls := .type "list", dict := none, data := .seq items n, slots := #[] } ∧ s.heap.get? b = some { cls := .type "tuple", dict := dd, data := .seq items2 n2, slots := sl } ∧ R (.ok (.ret Value.none)) { s with heap := s.heap.update l (Obj.mapSeq fun x => x ++ items2), toks := s.toks }) :=
  .of_wp fun prog w A R s h => by
    obtain ⟨hp, g, d, tk, os⟩ := s; obtain ⟨hl, hb, h⟩ := h; have f1 := idx_int; have f2 := AutoSeq1.sub_tuple_tuple; have f3 := AutoSeq1.sub_list_list; have f4 := AutoSeq1.sub_tuple_list; have f5 := AutoSeq1.sub_list_tuple;
    have hz' : (items ++ items2).size ≤ sizeLine + 1 := by rw [Array.size_append]; exact hs2
    wp_walk using (wpAny_updateSeq hl rfl (hz := hs1) (_hz' := hz')), wpAny_loadPart' hl, wpAny_loadPart' hb; exact ⟨_, rfl, h⟩
end PySem
namespace L2
open PySem PySem.Spec PyProof.Rows
section
variable {X : Cx}
def rExtendT (K : PySem.W.Frag) : V → List V → Hp → VK → Prop := fun x vs H Q => ∃ l b xs zs, x = .ref l ∧ vs = [.ref b] ∧ H l = some (.lst xs) ∧ SqT K H b zs ∧ xs.length + zs.length ≤ sizeLine ∧ Q .non (upd H l (.lst (xs ++ zs)))
theorem mt_extendT : MtM X "list.extend" (rExtendT X.K) := by
  intro pins s σ H x vs v us Q I rx rv h
  obtain ⟨l, b, xs, zs, rfl, rfl, hH, hB, hz, q⟩ := h
  cases rx
  obtain ⟨u, rfl, ru⟩ := rv.one
  cases ru
  obtain ⟨z, its, n, r, hl, e⟩ := I.lstM hH
  obtain ⟨its2, r2, ⟨⟨oc, od, oda, osl⟩, e2, c2, n2, d2⟩, hl2⟩ := I.tuple hB
  dsimp only at c2 d2
  subst c2 d2
  have l2 : zs.length = its2.length := r2.length
  have hsz : its.toArray.size + its2.toArray.size ≤ sizeLine := by rw [List.size_toArray, List.size_toArray]; omega
  have hlong : ¬ (!its.toArray.isEmpty && Builtin.List.listTooLong (its.toArray.size + its2.toArray.size)) = true := by
    rw [notLongL hsz, Bool.and_false]
    exact Bool.false_ne_true
  refine call_meets F.slot_list_extend ⟨_, e, rfl⟩ F.entry_list_extend (F.args_list_extend_2 _ _)
    (PySem.extend_tup_any l its.toArray n b its2.toArray n2 _ _ hlong (by rw [List.size_toArray]; omega) (by omega)) ⟨e, e2, ?_⟩
  refine ⟨.non, _, I.lset (its' := its ++ its2) hH e (by simp) (r.append r2) ?_, rfl, q⟩
  rw [List.length_append]
  omega
end
end L2
namespace ML
open PySem L2
noncomputable section
section
variable {C : MC} {E : XK}
def extTF (x : W) (ws : List W) (s : Sto) : R W := match x, ws with
  | .loc l, [.tup ys] => match s[l]? with
    | some (.lst xs) => if ck (xs.length + ys.length ≤ 10000000) = true then .ok .non (s.set l (.lst (xs ++ ys))) else .no
    | _ => .no
  | _, _ => .no
theorem mm_extendT : MtW C E (rExtendT C.K) extTF := by
  intro H ρ st v vs x ws Q S rx rs p
  unfold extTF at p
  split at p
  · rename_i l ys
    cases rx with
    | @loc a l q =>
      obtain ⟨u, rfl, ru⟩ := rs.one
      cases ru with
      | @tup b us _ hb rb =>
        split at p
        · rename_i xs e
          split at p
          · rename_i hl
            obtain ⟨zs, hz, rz⟩ := S.obj _ a _ q e
            obtain ⟨ev, S'⟩ := lst_write S q e (rz.append rb)
            exact ⟨a, b, zs, us, rfl, rfl, hz, hb, by rw [rz.length, rb.length]; exact szL (ck_iff.mp hl), p _ ρ _ ev S' .non⟩
          · exact p.elim
        · exact p.elim
  · exact p.elim
theorem Own.extT {st s : Sto} {x : W} {ws ys : List W} (h : Own st s x ws) (hl : ws.length + ys.length ≤ 10000000) : ∃ s', extTF x [.tup ys] s = .ok .non s' ∧ Own st s' x (ws ++ ys) := by
  obtain ⟨l, rfl, e, o⟩ := h.put (ws ++ ys)
  exact ⟨_, by simp only [extTF, e]; rw [if_pos (ck_iff.mpr hl)], o⟩
end
/-- f'.. {n} ..' -/
theorem fs_int {a b : Str} {m : Ex} {env : En} {st : Sto} {q : Int} (hm : m env st = .ok (.int q) st) (hq : q.natAbs.log2 < 1920) (ha : a.length ≤ 1000) (hb : b.length ≤ 1000) : ∃ y, jsE [kk (.str a), fmE m, kk (.str b)] env st = .ok (.str y) st := by
  have hs := PyProof.Rows.int_text_len_1921 hq
  have z := sizeLine_eq
  have e0 : (Str.empty).length = 0 := rfl
  refine ⟨Str.empty ++ a ++ (toString q : String) ++ b, ?_⟩
  unfold jsE
  simp only [jsX, kk, fmE, hm, R.bind_ok]
  have h1 : ck ((Str.empty ++ a).length ≤ sizeLine) = true := ck_iff.mpr (by rw [Str.length_append]; omega)
  have h2 : ck (q.natAbs.log2 < 1920) = true := ck_iff.mpr hq
  have h3 : ck ((Str.empty ++ a ++ (toString q : String)).length ≤ sizeLine) = true := ck_iff.mpr (by rw [Str.length_append, Str.length_append]; omega)
  have h4 : ck ((Str.empty ++ a ++ (toString q : String) ++ b).length ≤ sizeLine) = true := ck_iff.mpr (by rw [Str.length_append, Str.length_append, Str.length_append]; omega)
  simp only [h1, h2, if_true, R.bind_ok, h3, h4]
end
end ML

/-! ML21: str(int), ord, texts walked -/
namespace ML
open PySem L2
noncomputable section
section
variable {C : MC} {E : XK}
def strF (ws : List W) (s : Sto) : R W := match ws with
  | [.int i] => if ck (i.natAbs.log2 < 1920) then .ok (.str (toString i)) s else .no
  | _ => .no
theorem cm_str : ClM C E (fun xs H Q => ∃ i, xs = [.int i] ∧ i.natAbs.log2 < 1920 ∧ Q (.str (toString i)) H) strF := by
  intro H ρ st vs ws Q S rs p
  unfold strF at p
  split at p
  · obtain ⟨v, rfl, r⟩ := rs.one
    cases r
    split at p
    · rename_i h
      exact ⟨_, rfl, ck_iff.mp h, p H ρ _ (Evo.refl ..) S (.str _)⟩
    · exact p.elim
  · exact p.elim
def ordF (ws : List W) (s : Sto) : R W := match ws with
  | [.str x] => if ck (x.length = 1) then .ok (.int (x.cps.getD 0 0 : Nat)) s else .no
  | _ => .no
theorem cm_ord : ClM C E (fun xs H Q => ∃ x, xs = [.str x] ∧ x.length = 1 ∧ Q (.int (x.cps.getD 0 0 : Nat)) H) ordF := by
  intro H ρ st vs ws Q S rs p
  unfold ordF at p
  split at p
  · obtain ⟨v, rfl, r⟩ := rs.one
    cases r
    split at p
    · rename_i h
      exact ⟨_, rfl, ck_iff.mp h, p H ρ _ (Evo.refl ..) S (.int _)⟩
    · exact p.elim
  · exact p.elim
def chI (m : Ex) : Ix := fun env st => (m env st).bind fun w s => match w with
  | .str x => .ok (.st (x.cps.toList.map fun c => W.str ⟨#[c]⟩)) s
  | _ => .no
theorem its_rel {H : Hp} {ρ : Pl} {st : Sto} {x : Str} : ItRel C (Its x) H ρ st (.st (x.cps.toList.map fun c => W.str ⟨#[c]⟩)) := by
  intro H' ρ' st' ev S' i o ho
  cases ho
  by_cases hi : i < x.cps.size
  · have e : (x.cps.toList.map fun c => W.str ⟨#[c]⟩)[i]? = some (W.str ⟨#[x.cps[i]]⟩) := by simp [hi]
    rw [e]
    refine ⟨hi, fun y H'' hy => ?_⟩
    obtain ⟨rfl, c, hc, rfl⟩ := hy
    have : c = x.cps[i] := by simpa [hi] using hc.symm
    subst this
    exact ⟨Evo.refl .., S', .str _⟩
  · have e : (x.cps.toList.map fun c => W.str ⟨#[c]⟩)[i]? = none := by simp; omega
    rw [e]
    exact Nat.le_of_not_lt hi
theorem mi_str {X : Cx} {tg l : Expr} {ml : Ex} (hl : ME X C E l ml) : MI X C E tg l (chI ml) := by
  refine PI.imp (pi_str hl) fun σ H R ⟨ρ, st, env, re, S, p⟩ => ⟨ρ, st, env, re, S, Post.bind (rel := relW C) p fun w s1 H1 ρ1 v hw e1 S1 r1 p1 => ?_⟩
  cases r1 with
  | str x => exact ⟨x, rfl, p1 H1 ρ1 _ (Evo.refl ..) S1 its_rel⟩
  | int i => exact p1.elim
  | non => exact p1.elim
  | bl _ => exact p1.elim
  | raw _ => exact p1.elim
  | tup _ _ => exact p1.elim
  | fl _ _ _ => exact p1.elim
  | kl _ _ => exact p1.elim
  | loc _ => exact p1.elim
end
section
variable {α : Type} [DecidableEq α]
/-- a in (b, ..), a not in (b, ..) -/
theorem Cod.inT (c : Cod α) (hn : c.n ≤ 60) (neg : Bool) (a : α) (bs : List α) (s : Sto) : inDW neg (c.w a) (.tup (bs.map c.w)) s = .ok (.bl (if neg then !decide (a ∈ bs) else decide (a ∈ bs))) s := by
  have sh : SeqAt.shaped (c.d a) = true := by
    unfold SeqAt.shaped
    rw [Bool.and_eq_true]
    exact ⟨c.lay a, decide_eq_true (Nat.le_trans (c.dep a) (by omega))⟩
  have e1 : datS s 3 (c.w a) = some (c.d a) := by rw [datS_cl (c.cl a), c.dat]
  have e2 : datItems s (.tup (bs.map c.w)) = some (bs.map c.d) := by
    have h : datW (W.tup (bs.map c.w)) = some (.tuple (bs.map c.d)) := (cTup c).dat bs
    unfold datItems
    rw [datS_tup, h]
  have sh2 : SeqAt.shaped (.list (bs.map c.d)) = true := by
    unfold SeqAt.shaped
    rw [Bool.and_eq_true]
    exact ⟨(cLst c).lay bs, decide_eq_true (Nat.le_trans ((cLst c).dep bs) (by show c.n + 1 ≤ 64; omega))⟩
  have an : (bs.map c.d).any (fun z => PyData.eqv z (c.d a)) = decide (a ∈ bs) := by
    rw [List.any_map, Bool.eq_iff_iff]
    simp only [List.any_eq_true, Function.comp, c.eqv, decide_eq_true_eq]
    constructor
    · rintro ⟨x, hx, rfl⟩; exact hx
    · intro h; exact ⟨a, h, rfl⟩
  unfold inDW
  simp only [e1, e2, sh, sh2, and_self, if_true, an]
end
end
end ML

/-! ML22: sorted(ints) -/
namespace ML
open PySem L2
noncomputable section
def insI (x : Int) : List Int → List Int
  | [] => [x]
  | y :: ys => if x ≤ y then x :: y :: ys else y :: insI x ys
def isort : List Int → List Int
  | [] => []
  | x :: xs => insI x (isort xs)
theorem insI_perm (x : Int) : ∀ ys : List Int, (insI x ys).Perm (x :: ys)
  | [] => List.Perm.refl _
  | y :: ys => by
    unfold insI
    split
    · exact List.Perm.refl _
    · exact ((insI_perm x ys).cons y).trans (List.Perm.swap ..)
theorem isort_perm : ∀ xs : List Int, (isort xs).Perm xs
  | [] => List.Perm.refl _
  | x :: xs => (insI_perm x _).trans ((isort_perm xs).cons x)
theorem insI_up (x : Int) : ∀ ys : List Int, ys.Pairwise (· ≤ ·) → (insI x ys).Pairwise (· ≤ ·)
  | [], _ => by simp [insI]
  | y :: ys, h => by
    unfold insI
    rw [List.pairwise_cons] at h
    split
    · rename_i hx
      refine List.pairwise_cons.mpr ⟨fun z hz => ?_, List.pairwise_cons.mpr h⟩
      rcases List.mem_cons.mp hz with e | hz
      · omega
      · have := h.1 z hz; omega
    · rename_i hx
      refine List.pairwise_cons.mpr ⟨fun z hz => ?_, insI_up x ys h.2⟩
      rcases List.mem_cons.mp ((insI_perm x ys).mem_iff.mp hz) with e | hz
      · omega
      · exact h.1 z hz
theorem isort_up : ∀ xs : List Int, (isort xs).Pairwise (· ≤ ·)
  | [] => List.Pairwise.nil
  | x :: xs => insI_up x _ (isort_up xs)
/-- two arrangements in order are one -/
theorem up_one : ∀ {xs ys : List Int}, xs.Perm ys → xs.Pairwise (· ≤ ·) → ys.Pairwise (· ≤ ·) → xs = ys
  | [], ys, h, _, _ => (List.nil_perm.mp h).symm
  | x :: xs, [], h, _, _ => absurd h.symm (by simp)
  | x :: xs, y :: ys, h, h1, h2 => by
    have e : x = y := by
      have a := h.mem_iff.mp (List.mem_cons_self (a := x) (l := xs))
      have b := h.mem_iff.mpr (List.mem_cons_self (a := y) (l := ys))
      rw [List.pairwise_cons] at h1 h2
      rcases List.mem_cons.mp a with e | a
      · exact e
      · rcases List.mem_cons.mp b with e | b
        · exact e.symm
        · have := h1.1 y b
          have := h2.1 x a
          omega
    subst e
    rw [List.pairwise_cons] at h1 h2
    rw [up_one (List.Perm.cons_inv h) h1.2 h2.2]
section
variable {C : MC} {E : XK}
def sortF (ws : List W) (s : Sto) : R W := match ws with
  | [w] => match (lstK s w).bind intsOf with
    | some ns => .ok (.fl ((isort ns).map W.int)) s
    | none => .no
  | _ => .no
theorem cm_sorted : ClM C E (rSortedI C.K) sortF := by
  intro H ρ st vs ws Q S rs p
  unfold sortF at p
  split at p
  · obtain ⟨v, rfl, r⟩ := rs.one
    split at p
    · rename_i ns e
      rw [Option.bind_eq_some_iff] at e
      obtain ⟨xs, e1, e2⟩ := e
      obtain ⟨a, us, rfl, q, r⟩ := lstK_rep S r e1
      rw [intsOf_eq e2] at r
      refine ⟨a, ns, rfl, r.ints ▸ q, fun ns' l hp hu hl => ?_⟩
      have e : ns' = isort ns := up_one (hp.trans (isort_perm ns).symm) hu (isort_up ns)
      subst e
      exact p _ ρ _ (Evo.laid hl) (S.laid hl) (fl_new S hl (repL_ints _))
    · exact p.elim
  · exact p.elim
end
end
end ML

/-! ML23: [x] * n at a place of its own; a == b == c == d as a test -/
namespace L2
open PySem PySem.Spec PyProof.Rows
section
variable {X : Cx}
def tChain3 (r r' r'' : R2) (ta tb tc td : TE) : TE := fun σ H Q => ta σ H fun x H1 => tb σ H1 fun y H2 => r x y H2 fun z H3 => ∃ k, z = .bl k ∧
  (if k = true then tc σ H3 fun w H4 => r' y w H4 fun z2 H5 => ∃ k2, z2 = .bl k2 ∧ (if k2 = true then td σ H5 fun w2 H6 => r'' w w2 H6 Q else Q (.bl false) H5) else Q (.bl false) H3)
theorem pt_chain3 {op op' op'' : CmpOp} {r r' r'' : R2} (ho : OpR X (compareOp op) r) (ho' : OpR X (compareOp op') r') (ho'' : OpR X (compareOp op'') r'') (ha : PE X a ta) (hb : PE X b tb) (hc : PE X c tc) (hd : PE X d td)
    (hm : lastMarks [op, op', op''] [b, c, d] = false := by with_unfolding_all rfl) : PT X (.Compare a [op, op', op''] [b, c, d] pos) (tTest (tChain3 r r' r'' ta tb tc td)) := by
  refine ⟨fun pins s σ H Q I h => ?_⟩
  refine isTrue_chain (thn (ha.run pins s σ H _ I h) fun v s1 ⟨x, H1, I1, r1, q1⟩ => test_link (thn (hb.run pins s1 σ H1 _ I1 q1) fun u s2 ⟨y, H2, I2, r2, q2⟩ =>
    thn (ho pins s2 σ H2 x y v u _ I2 r1 r2 q2) fun d s3 ⟨z, H3, I3, r3, k, e, q3⟩ => ?_)) hm
  subst e
  cases r3
  refine wpAny_truthy_bool ?_
  cases k with
  | false =>
    obtain ⟨k', e', q'⟩ := q3
    cases e'
    exact ite_ff ⟨H3, I3, q'⟩
  | true =>
    refine ite_tt (test_link (thn (hc.run pins s3 σ H3 _ I3 q3) fun w' s4 ⟨z', H4, I4, r4, q4⟩ => thn (ho' pins s4 σ H4 y z' u w' _ I4 r2 r4 q4) fun d' s5 ⟨z2, H5, I5, r5, k2, e2, q5⟩ => ?_))
    subst e2
    cases r5
    refine wpAny_truthy_bool ?_
    cases k2 with
    | false =>
      obtain ⟨k', e', q'⟩ := q5
      cases e'
      exact ite_ff ⟨H5, I5, q'⟩
    | true =>
      refine ite_tt (test_last (thn (hd.run pins s5 σ H5 _ I5 q5) fun w2 s6 ⟨z3, H6, I6, r6, q6⟩ => thn (ho'' pins s6 σ H6 z' z3 w' w2 _ I6 r4 r6 q6) fun d3 s7 ⟨z4, H7, I7, r7, k3, e3, q7⟩ => ?_))
      subst e3
      cases r7
      exact wpAny_truthy_bool ⟨H7, I7, q7⟩
end
end L2
namespace ML
open PySem L2
noncomputable section
section
variable {C : MC} {E : XK} {X : Cx}
def chn3 (f g h : W → W → Sto → R W) (a b c d : Ex) : Ex := fun env st => (a env st).bind fun x s1 => (b env s1).bind fun y s2 => (f x y s2).bind fun z s3 => z.cb fun k =>
  if k = true then (c env s3).bind fun w s4 => (g y w s4).bind fun z2 s5 => z2.cb fun k2 => if k2 = true then (d env s5).bind fun w2 s6 => h w w2 s6 else .ok (.bl false) s5 else .ok (.bl false) s3
theorem tChain3_of {ma mb mc md : Ex} {r r' r'' : R2} {f g h : W → W → Sto → R W} (hf : OpM C E r f) (hg : OpM C E r' g) (hh : OpM C E r'' h) {σ : St} {H : Hp} {Q : VK} (hyp : tM C E (chn3 f g h ma mb mc md) σ H Q) : tChain3 r r' r'' (tM C E ma) (tM C E mb) (tM C E mc) (tM C E md) σ H Q := by
  obtain ⟨ρ, st, env, re, S, p⟩ := hyp
  refine ⟨ρ, st, env, re, S, Post.bind p fun x s1 H1 ρ1 v _ e1 S1 r1 p1 => ?_⟩
  have re1 := re.evo e1 S.liv
  refine ⟨ρ1, s1, env, re1, S1, Post.bind p1 fun y s2 H2 ρ2 u _ e2 S2 r2 p2 => ?_⟩
  have re2 := re1.evo e2 S1.liv
  refine hf H2 ρ2 s2 v u x y _ S2 (r1.evo e2 S1.liv) r2 (Post.bind p2 fun z s3 H3 ρ3 vz _ e3 S3 r3 p3 => ?_)
  cases z with
  | bl k =>
    cases r3
    refine ⟨k, rfl, ?_⟩
    cases k with
    | false => exact (if_neg (by decide)).mpr (p3 H3 ρ3 _ (Evo.refl ..) S3 (.bl false))
    | true =>
      refine (if_pos rfl).mpr ?_
      have re3 := re2.evo e3 S2.liv
      refine ⟨ρ3, s3, env, re3, S3, Post.bind p3 fun w s4 H4 ρ4 vw _ e4 S4 r4 p4 => ?_⟩
      have re4 := re3.evo e4 S3.liv
      refine hg H4 ρ4 s4 u vw y w _ S4 ((r2.evo e3 S2.liv).evo e4 S3.liv) r4 (Post.bind p4 fun z2 s5 H5 ρ5 vz2 _ e5 S5 r5 p5 => ?_)
      cases z2 with
      | bl k2 =>
        cases r5
        refine ⟨k2, rfl, ?_⟩
        cases k2 with
        | false => exact (if_neg (by decide)).mpr (p5 H5 ρ5 _ (Evo.refl ..) S5 (.bl false))
        | true =>
          refine (if_pos rfl).mpr ?_
          refine ⟨ρ5, s5, env, re4.evo e5 S4.liv, S5, Post.bind p5 fun w2 s6 H6 ρ6 vw2 _ e6 S6 r6 p6 => ?_⟩
          exact hh H6 ρ6 s6 vw vw2 w w2 _ S6 ((r4.evo e5 S4.liv).evo e6 S5.liv) r6 p6
      | _ => exact p5.elim
  | _ => exact p3.elim
theorem mt_chain3 {ma mb mc md : Ex} {op op' op'' : CmpOp} {r r' r'' : R2} {f g h : W → W → Sto → R W} (ho : OpR X (compareOp op) r) (ho' : OpR X (compareOp op') r') (ho'' : OpR X (compareOp op'') r'') (hf : OpM C E r f) (hg : OpM C E r' g) (hh : OpM C E r'' h) (ha : ME X C E a ma) (hb : ME X C E b mb) (hc : ME X C E c mc) (hd : ME X C E d md)
    (hm : lastMarks [op, op', op''] [b, c, d] = false := by with_unfolding_all rfl) : MT X C E (.Compare a [op, op', op''] [b, c, d] pos) (tb (chn3 f g h ma mb mc md)) :=
  PT.imp (pt_chain3 ho ho' ho'' ha hb hc hd hm) fun _ _ _ x => tTest_of (fun _ _ _ x => tChain3_of hf hg hh x) x
def mulLW (x y : W) (s : Sto) : R W := match y with
  | .int k => match lstOf s x with
    | some xs => if ck (-(2 ^ 63) ≤ k ∧ k < 2 ^ 63 ∧ xs.length * k.toNat ≤ 10000000) = true then .ok (.loc s.length) (s ++ [.lst (List.replicate k.toNat xs).flatten]) else .no
    | none => .no
  | _ => .no
theorem om_mulL : OpM C E rMulU mulLW := by
  intro H ρ st v u x y Q S rx ry p
  unfold mulLW at p
  split at p
  · split at p
    · rename_i e
      obtain ⟨a, vs, rfl, h1, r1⟩ := lstOf_rep S rx e
      cases ry
      split at p
      · rename_i h
        have h := ck_iff.mp h
        refine .inr ⟨_, _, _, rfl, rfl, h1, h.1, h.2.1, by rw [r1.length]; exact szL h.2.2, fun q hq => ?_⟩
        exact p _ (ρ.add q) _ (Evo.push hq) (lst_push S hq (r1.rep _)) (loc_new S)
      · exact p.elim
    · exact p.elim
  · exact p.elim
end
end
end ML

namespace Kx
open PySem L2 ML LA
noncomputable section
abbrev t_LEAST_SPLIT : List (Str × Int) := [("beside", 5), ("below", 3)]
def isx_NoRoom : Nat → Bool
  | 0 => true
  | _ => false
abbrev w_LEAST_PANE : W := .tup [.int 2, .int 1]
theorem eq_int (i j : Int) (s : Sto) : eqW (.int i) (.int j) s = .ok (.bl (i == j)) s := by
  simp [eqW, datS, lstOf, datW, SeqAt.shaped, PyData.canLay0, PyData.depth, PyData.eqv]
theorem ne_int (i j : Int) (s : Sto) : neW (.int i) (.int j) s = .ok (.bl (!(i == j))) s := by
  simp [neW, datS, lstOf, datW, SeqAt.shaped, PyData.canLay0, PyData.depth, PyData.eqv]
theorem eq_bl (i j : Bool) (s : Sto) : eqW (.bl i) (.bl j) s = .ok (.bl (i == j)) s := by
  simp [eqW, datS, lstOf, datW, SeqAt.shaped, PyData.canLay0, PyData.depth, PyData.eqv]
theorem ne_bl (i j : Bool) (s : Sto) : neW (.bl i) (.bl j) s = .ok (.bl (!(i == j))) s := by
  simp [neW, datS, lstOf, datW, SeqAt.shaped, PyData.canLay0, PyData.depth, PyData.eqv]
theorem set_last (s : Sto) (a b : O) : (s ++ [a]).set s.length b = s ++ [b] := by simp
theorem rngL_succ (lo : Int) (n : Nat) : rngL lo (n + 1) = W.int lo :: rngL (lo + 1) n := by
  unfold rngL
  rw [List.range_succ_eq_map, List.map_cons, List.map_map]
  congr 1
  · show W.int (lo + ((0 : Nat) : Int)) = _
    rw [show lo + ((0 : Nat) : Int) = lo by omega]
  · apply List.map_congr_left
    intro i _
    show W.int (lo + ((i + 1 : Nat) : Int)) = W.int (lo + 1 + (i : Int))
    rw [show lo + ((i + 1 : Nat) : Int) = lo + 1 + (i : Int) by omega]
theorem rngL_zero (lo : Int) : rngL lo 0 = [] := rfl
theorem smI_small {n : Int} (h : 0 ≤ n) (h2 : n ≤ 1000000000) : smI n = true := by
  unfold smI
  rw [ck_iff]
  omega
theorem at0 (s : Sto) (a : O) (xs : List O) : (s ++ a :: xs)[s.length]? = some a := by simp
theorem set0 (s : Sto) (a b : O) (xs : List O) : (s ++ a :: xs).set s.length b = s ++ b :: xs := by simp
theorem dat_ints (s : Sto) (n : Nat) (ns : List Int) : (ns.map W.int).mapM (datS s n) = some (ns.map PyData.int) := by
  induction ns with
  | nil => rfl
  | cons x xs ih =>
    have e : datS s n (.int x) = some (.int x) := by cases n <;> simp [datS, lstOf, datW]
    simp only [List.map_cons, List.mapM_cons, e, ih]
    rfl
theorem lay_ints (ns : List Int) : PyData.canLayAll0 (ns.map PyData.int) = true := by
  induction ns with
  | nil => rfl
  | cons x xs ih => simp [PyData.canLayAll0, PyData.canLay0, ih]
theorem depth_ints (ns : List Int) : PyData.depthAll (ns.map PyData.int) ≤ 1 := by
  induction ns with
  | nil => simp [PyData.depthAll]
  | cons x xs ih => simp only [List.map_cons, PyData.depthAll, PyData.depth]; omega
theorem shaped_ints (ns : List Int) : SeqAt.shaped (.list (ns.map PyData.int)) = true := by
  have h := depth_ints ns
  unfold SeqAt.shaped
  rw [Bool.and_eq_true]
  exact ⟨by simp only [PyData.canLay0]; exact lay_ints ns, decide_eq_true (by simp only [PyData.depth]; omega)⟩
theorem eqv_ints : ∀ (xs ys : List Int), PyData.eqvAll (xs.map PyData.int) (ys.map PyData.int) = decide (xs = ys)
  | [], [] => by simp [PyData.eqvAll]
  | [], _ :: _ => by simp [PyData.eqvAll]
  | _ :: _, [] => by simp [PyData.eqvAll]
  | x :: xs, y :: ys => by
    simp only [List.map_cons, PyData.eqvAll, PyData.eqv, eqv_ints xs ys]
    by_cases h : x = y <;> simp [h]
theorem dat_lst {s : Sto} {w : W} {ns : List Int} (h : lstOf s w = some (ns.map W.int)) : datS s 3 w = some (.list (ns.map PyData.int)) := by
  unfold datS
  rw [h]
  simp only [dat_ints, Option.map_some]
theorem eq_lsts {s : Sto} {x y : W} {xs ys : List Int} (h1 : lstOf s x = some (xs.map W.int)) (h2 : lstOf s y = some (ys.map W.int)) : eqW x y s = .ok (.bl (decide (xs = ys))) s := by
  simp only [eqW, dat_lst h1, dat_lst h2, shaped_ints, PyData.eqv, eqv_ints, and_self, if_true]
theorem ne_lsts {s : Sto} {x y : W} {xs ys : List Int} (h1 : lstOf s x = some (xs.map W.int)) (h2 : lstOf s y = some (ys.map W.int)) : neW x y s = .ok (.bl (!decide (xs = ys))) s := by
  simp only [neW, dat_lst h1, dat_lst h2, shaped_ints, PyData.eqv, eqv_ints, and_self, if_true]
theorem atI_l0 {α : Type} (x : α) (xs : List α) : atI (x :: xs) 0 = some x := atI_nat (j := 0) rfl
theorem atI_l1 {α : Type} (x y : α) (xs : List α) : atI (x :: y :: xs) 1 = some y := atI_nat (j := 1) rfl
theorem atI_l2 {α : Type} (x y z : α) (xs : List α) : atI (x :: y :: z :: xs) 2 = some z := atI_nat (j := 2) rfl
theorem atI_l3 {α : Type} (x y z u : α) (xs : List α) : atI (x :: y :: z :: u :: xs) 3 = some u := atI_nat (j := 3) rfl
theorem cutL_to {α : Type} (ws : List α) (k : Nat) : cutL ws none (some (k : Int)) = ws.take k := by
  unfold cutL
  rw [HT.sIx_none, HT.sIx_nat, List.drop_zero, Nat.sub_zero, ← List.take_eq_take_min]
theorem cutL_from {α : Type} (ws : List α) (k : Nat) : cutL ws (some (k : Int)) none = ws.drop k := by
  unfold cutL
  rw [HT.sIx_none, HT.sIx_nat]
  by_cases h : k ≤ ws.length
  · rw [Nat.min_eq_left h, List.take_of_length_le (by simp)]
  · rw [Nat.min_eq_right (by omega), List.drop_eq_nil_of_le (Nat.le_refl _), List.drop_eq_nil_of_le (by omega)]
    simp

def b__law_borders_right_0 : Sx := (sqS (setS 5 (bn ixW (bn ixW (vr 0) (vr 3)) (vr 4))) (sqS (ifS (andB (tb (bn neW (vr 5) (kk (.int 0)))) (andB (tb (bn ltW (bn addW (vr 4) (kk (.int 1))) (vr 1))) (tb (bn ninW (bn ixW (bn ixW (vr 0) (vr 3)) (bn addW (vr 4) (kk (.int 1)))) (flE (axc (kk (.int 0)) (axc (vr 5) axn))))))) (rtS (kk (.bl false))) passS) (sqS (ifS (andB (tb (bn neW (vr 5) (kk (.int 0)))) (andB (tb (bn ltW (bn addW (vr 3) (kk (.int 1))) (vr 2))) (tb (bn ninW (bn ixW (bn ixW (vr 0) (bn addW (vr 3) (kk (.int 1)))) (vr 4)) (flE (axc (kk (.int 0)) (axc (vr 5) axn))))))) (rtS (kk (.bl false))) passS) (sqS (setS 6 (andE (chn ltW ltW (kk (.int 0)) (vr 4) (bn subW (vr 1) (kk (.int 1)))) (andE (bn neW (bn ixW (bn ixW (vr 0) (vr 3)) (bn subW (vr 4) (kk (.int 1)))) (kk (.int 0))) (bn neW (bn ixW (bn ixW (vr 0) (vr 3)) (bn addW (vr 4) (kk (.int 1)))) (kk (.int 0)))))) (sqS (setS 7 (andE (chn ltW ltW (kk (.int 0)) (vr 3) (bn subW (vr 2) (kk (.int 1)))) (andE (bn neW (bn ixW (bn ixW (vr 0) (bn subW (vr 3) (kk (.int 1)))) (vr 4)) (kk (.int 0))) (bn neW (bn ixW (bn ixW (vr 0) (bn addW (vr 3) (kk (.int 1)))) (vr 4)) (kk (.int 0)))))) (sqS (setS 8 (orE (andE (bn ltW (kk (.int 0)) (vr 4)) (bn eqW (bn ixW (bn ixW (vr 0) (vr 3)) (bn subW (vr 4) (kk (.int 1)))) (kk (.int 0)))) (andE (bn ltW (bn addW (vr 4) (kk (.int 1))) (vr 1)) (bn eqW (bn ixW (bn ixW (vr 0) (vr 3)) (bn addW (vr 4) (kk (.int 1)))) (kk (.int 0)))))) (sqS (setS 8 (orE (vr 8) (orE (andE (bn ltW (kk (.int 0)) (vr 3)) (bn eqW (bn ixW (bn ixW (vr 0) (bn subW (vr 3) (kk (.int 1)))) (vr 4)) (kk (.int 0)))) (andE (bn ltW (bn addW (vr 3) (kk (.int 1))) (vr 2)) (bn eqW (bn ixW (bn ixW (vr 0) (bn addW (vr 3) (kk (.int 1)))) (vr 4)) (kk (.int 0))))))) (sqS (ifS (andB (tb (bn eqW (vr 5) (kk (.int 0)))) (andB (notB (trB (vr 6))) (andB (notB (trB (vr 7))) (notB (trB (vr 8)))))) (rtS (kk (.bl false))) passS) (sqS (ifS (andB (tb (bn eqW (vr 5) (kk (.int 0)))) (orB (andB (tb (bn inW (vr 3) (flE (axc (kk (.int 0)) (axc (bn subW (vr 2) (kk (.int 1))) axn))))) (notB (trB (vr 6)))) (andB (tb (bn inW (vr 4) (flE (axc (kk (.int 0)) (axc (bn subW (vr 1) (kk (.int 1))) axn))))) (notB (trB (vr 7)))))) (rtS (kk (.bl false))) passS) (ifS (andB (tb (bn eqW (vr 5) (kk (.int 0)))) (andB (tb (bn ltW (bn addW (vr 3) (kk (.int 1))) (vr 2))) (andB (tb (bn ltW (bn addW (vr 4) (kk (.int 1))) (vr 1))) (tb (chn3 eqW eqW eqW (bn ixW (bn ixW (vr 0) (bn addW (vr 3) (kk (.int 1)))) (vr 4)) (bn ixW (bn ixW (vr 0) (vr 3)) (bn addW (vr 4) (kk (.int 1)))) (bn ixW (bn ixW (vr 0) (bn addW (vr 3) (kk (.int 1)))) (bn addW (vr 4) (kk (.int 1)))) (kk (.int 0))))))) (rtS (kk (.bl false))) passS))))))))))
def b__law_borders_right_1 : Sx := (forS (rg1 (axc (vr 1) axn)) (gNm 4) b__law_borders_right_0)
/-! _law_borders_right -/
def r__law_borders_right : List W → Sto → R W := bodyD 9 (sqS (forS (rg1 (axc (vr 2) axn)) (gNm 3) b__law_borders_right_1) (rtS (kk (.bl true))))
abbrev d__law_borders_right : List W → Sto → R W := r__law_borders_right
def boxW (b : Box) : W := .tup [.int b.1, .int b.2.1, .int b.2.2.1, .int b.2.2.2.1, .int b.2.2.2.2]
theorem boxW_cl (b : Box) : Cl (boxW b) := .tup fun w hw => by
  simp only [List.mem_cons, List.not_mem_nil, or_false] at hw
  rcases hw with rfl | rfl | rfl | rfl | rfl <;> exact .int _
theorem fit_enc {a b : Lay × Int × Int} (e : [layW a.1, W.int a.2.1, W.int a.2.2] = [layW b.1, W.int b.2.1, W.int b.2.2]) : a = b := by
  obtain ⟨a1, a2, a3⟩ := a
  obtain ⟨b1, b2, b3⟩ := b
  simp only [List.cons.injEq, W.int.injEq] at e
  rw [lay_inj e.1, e.2.1, e.2.2.1]
theorem boxes_enc {a b : Lay × Int × Int × Int × Int} (e : [layW a.1, W.int a.2.1, W.int a.2.2.1, W.int a.2.2.2.1, W.int a.2.2.2.2] = [layW b.1, W.int b.2.1, W.int b.2.2.1, W.int b.2.2.2.1, W.int b.2.2.2.2]) : a = b := by
  obtain ⟨a1, a2, a3, a4, a5⟩ := a
  obtain ⟨b1, b2, b3, b4, b5⟩ := b
  simp only [List.cons.injEq, W.int.injEq] at e
  rw [lay_inj e.1, e.2.1, e.2.2.1, e.2.2.2.1, e.2.2.2.2.1]
theorem in_panes (q : Int) (ns : List Int) (s : Sto) : inW (.int q) (.fl (ns.map W.int)) s = .ok (.bl (decide (q ∈ ns))) s := by
  have h1 : (ns.map W.int).all flatW = true := by simp [flatW]
  have h2 : (ns.map W.int).any (fun z => veqW z (.int q)) = decide (q ∈ ns) := by
    rw [List.any_map]
    by_cases h : q ∈ ns
    · rw [decide_eq_true h, List.any_eq_true]; exact ⟨q, h, by simp [veqW]⟩
    · rw [decide_eq_false h, List.any_eq_false]
      intro x hx
      simp only [Function.comp, veqW, beq_iff_eq]
      exact fun e => h (e ▸ hx)
  simp only [inW, seqOf_fl, flatW, h1, and_self, if_true, h2]
theorem shift_enc {a b : Lay × Int × Bool × Int} (e : [layW a.1, W.int a.2.1, W.str (wayS a.2.2.1), W.int a.2.2.2] = [layW b.1, W.int b.2.1, W.str (wayS b.2.2.1), W.int b.2.2.2]) : a = b := by
  obtain ⟨a1, a2, a3, a4⟩ := a
  obtain ⟨b1, b2, b3, b4⟩ := b
  simp only [List.cons.injEq, W.int.injEq, W.str.injEq] at e
  rw [lay_inj e.1, e.2.1, wayS_eq e.2.2.1, e.2.2.2.1]
theorem lay_nonW (L : Lay) (s : Sto) : nonW (layW L) s = .ok (.bl true) s := by
  cases L with
  | pane p => rw [layW_pane]; rfl
  | node b ps => rw [layW_node]; rfl
theorem moved_enc {a b : Lay × Int × Int × Int × Bool × Int} (e : [layW a.1, W.int a.2.1, W.int a.2.2.1, W.int a.2.2.2.1, W.str (wayS a.2.2.2.2.1), W.int a.2.2.2.2.2] = [layW b.1, W.int b.2.1, W.int b.2.2.1, W.int b.2.2.2.1, W.str (wayS b.2.2.2.2.1), W.int b.2.2.2.2.2]) : a = b := by
  obtain ⟨a1, a2, a3, a4, a5, a6⟩ := a
  obtain ⟨b1, b2, b3, b4, b5, b6⟩ := b
  simp only [List.cons.injEq, W.int.injEq, W.str.injEq] at e
  rw [lay_inj e.1, e.2.1, e.2.2.1, e.2.2.2.1, wayS_eq e.2.2.2.2.1, e.2.2.2.2.2.1]
theorem taken_enc {a b : Lay × Int} (e : [layW a.1, W.int a.2] = [layW b.1, W.int b.2]) : a = b := by
  obtain ⟨a1, a2⟩ := a
  obtain ⟨b1, b2⟩ := b
  simp only [List.cons.injEq, W.int.injEq] at e
  rw [lay_inj e.1, e.2.1]
theorem px0 (z : Part) (s : Sto) : ixW (partW z) (.int 0) s = .ok (layW z.1) s := rfl
theorem lay4_enc {a b : Lay × Int × Int × Int} (e : [layW a.1, W.int a.2.1, W.int a.2.2.1, W.int a.2.2.2] = [layW b.1, W.int b.2.1, W.int b.2.2.1, W.int b.2.2.2]) : a = b := by
  obtain ⟨a1, a2, a3, a4⟩ := a
  obtain ⟨b1, b2, b3, b4⟩ := b
  simp only [List.cons.injEq, W.int.injEq] at e
  rw [lay_inj e.1, e.2.1, e.2.2.1, e.2.2.2.1]

/-! _law_cell -/
def r__law_cell : List W → Sto → R W := bodyD 2 (sqS (ifS (tb (bn ltW (vr 1) (clE lenF (axc (vr 0) axn)))) (rtS (clE intF (axc (bn ixW (vr 0) (vr 1)) axn))) passS) (rtS (kk (.int 0))))
abbrev d__law_cell : List W → Sto → R W := r__law_cell
theorem cell_den (ns : List Int) (k : Nat) (st : Sto) : r__law_cell [.kl (ns.map W.int), .int k] st = .ok (.int (ns.getD k 0)) st := by
  unfold r__law_cell
  simp [bodyD, pad, sqS, ifS, orB, andB, notB, tb, bn, un, addW, mulW, negW, notW, mulOk, int0, intW, vr, kk, rtS, rnS, exS, orE, andE, chn, ifE, trB, truW, lstOf, seqOf, lstK, passS, noS, setS, asgS, parS, axc, axn, flE, lsE, tupE, clE, mthE, mkE, isIns, fldW, setFS, augFS, setFd, gFd, gNm, gTp, gsC, gsN, augS, lenF, absF, intF, allF, anyF, sumF, maxF, minF, listF, listLF, tupF, isiW, tyOf, Ty.le, ixW, lmE, appF, extF, popF, flatW, veqW, inW, ninW, forS, sqI, lpS, forL, rg1, rg2, slE, slF, slLF, oxn, oxs, inT, getT, isnW, nonW, isbW, nibW, idxF, firstI, gSb, setI, ixN, bkS, ctS, whS, eq_int, ne_int, eq_bl, ne_bl, atI_l0, atI_l1, atI_l2, atI_l3, intsOf_map, blsOf_map, intsOf_mapf, blsOf_mapf, intsOf_mapc, blsOf_mapc, lstK]
  by_cases h : k < ns.length
  · have e : (ns.map W.int)[k]? = some (.int (ns.getD k 0)) := by simp [h]
    simp [h, atI_nat e]
  · have e : ns[k]? = none := List.getElem?_eq_none_iff.mpr (by omega)
    simp [h, List.getD, e]

def b__law_sheet_0 : Sx := (sqS (ifS (tb (bn neW (bn ixW (bn ixW (vr 3) (vr 9)) (vr 10)) (kk (.int 0)))) (rtS (kk .non)) passS) (asgS (vr 4) (gSb (bn ixW (vr 3) (vr 9)) (vr 10))))
def b__law_sheet_1 : Sx := (forS (rg2 (axc (vr 6) (axc (bn addW (vr 6) (vr 7)) axn))) (gNm 10) b__law_sheet_0)
def b__law_sheet_2 : Sx := (sqS (ifS (orB (tb (bn ltW (vr 7) (kk (.int 2)))) (orB (tb (bn ltW (vr 8) (kk (.int 1)))) (orB (tb (bn ltW (vr 5) (kk (.int 0)))) (orB (tb (bn ltW (vr 6) (kk (.int 0)))) (orB (tb (bn gtW (bn addW (vr 5) (vr 8)) (vr 2))) (tb (bn gtW (bn addW (vr 6) (vr 7)) (vr 1)))))))) (rtS (kk .non)) passS) (forS (rg2 (axc (vr 5) (axc (bn addW (vr 5) (vr 8)) axn))) (gNm 9) b__law_sheet_1))
/-! _law_sheet -/
def r__law_sheet : List W → Sto → R W := bodyD 11 (sqS (setS 3 (lcE [5] (rg1 (axc (vr 2) axn)) (ct1 5) yesB (bn mulLW (flE (axc (kk (.int 0)) axn)) (vr 1)))) (sqS (forS (sqI (vr 0)) (gTp 5 (gsC (gNm 4) (gsC (gNm 5) (gsC (gNm 6) (gsC (gNm 7) (gsC (gNm 8) gsN)))))) b__law_sheet_2) (rtS (vr 3))))
theorem boxW_inj {a b : Box} (e : boxW a = boxW b) : a = b := by
  obtain ⟨a1, a2, a3, a4, a5⟩ := a
  obtain ⟨b1, b2, b3, b4, b5⟩ := b
  simp only [boxW, W.tup.injEq, List.cons.injEq, W.int.injEq] at e
  rw [e.1, e.2.1, e.2.2.1, e.2.2.2.1, e.2.2.2.2.1]
theorem boxsW_inj : ∀ {a b : List Box}, a.map boxW = b.map boxW → a = b
  | [], [], _ => rfl
  | [], _ :: _, e => by simp at e
  | _ :: _, [], e => by simp at e
  | x :: xs, y :: ys, e => by
    simp only [List.map_cons, List.cons.injEq] at e
    rw [boxW_inj e.1, boxsW_inj e.2]
/-- a sheet as a list of lists -/
def gridW (F : Int → Int → Int) (w h : Nat) : W := .fl ((List.range h).map fun (i : Nat) => W.fl ((List.range w).map fun (j : Nat) => W.int (F (i : Int) (j : Int))))
def rowO (F : Int → Int → Int) (w : Nat) (i : Nat) : O := .lst ((List.range w).map fun (j : Nat) => W.int (F (i : Int) (j : Int)))
def sheetS (F : Int → Int → Int) (w h : Nat) : Sto := (List.range h).map (rowO F w)
def locsW (n h : Nat) : W := .fl ((List.range h).map fun (i : Nat) => W.loc (n + i))
def putF (F : Int → Int → Int) (i j p : Int) : Int → Int → Int := fun a b => if a = i ∧ b = j then p else F a b
theorem at_range {α : Type} (g : Nat → α) {n k : Nat} (h : k < n) : ((List.range n).map g)[k]? = some (g k) := by
  rw [List.getElem?_map, List.getElem?_range h]; rfl
theorem ixR {n h : Nat} {i : Int} (h0 : 0 ≤ i) (h1 : i < h) (s : Sto) : ixW (locsW n h) (.int i) s = .ok (.loc (n + i.toNat)) s := by
  obtain ⟨k, rfl⟩ := Int.eq_ofNat_of_zero_le h0
  exact ixW_lst (seqOf_fl ..) (atI_nat (at_range (fun (i : Nat) => W.loc (n + i)) (by omega)))
theorem rowAt {st : Sto} {F : Int → Int → Int} {w h k : Nat} (hk : k < h) : (st ++ sheetS F w h)[st.length + k]? = some (rowO F w k) := by
  rw [List.getElem?_append_right (by omega), Nat.add_sub_cancel_left]
  exact at_range _ hk
theorem ixC {st : Sto} {F : Int → Int → Int} {w h : Nat} {i j : Int} (h0 : 0 ≤ i) (h1 : i < h) (h2 : 0 ≤ j) (h3 : j < w) : ixW (.loc (st.length + i.toNat)) (.int j) (st ++ sheetS F w h) = .ok (.int (F i j)) (st ++ sheetS F w h) := by
  obtain ⟨k, rfl⟩ := Int.eq_ofNat_of_zero_le h0
  obtain ⟨m, rfl⟩ := Int.eq_ofNat_of_zero_le h2
  have r := rowAt (st := st) (F := F) (w := w) (h := h) (k := k) (by omega)
  refine ixW_lst (ws := (List.range w).map fun (j : Nat) => W.int (F (k : Int) (j : Int))) ?_ (atI_nat (at_range _ (by omega)))
  simp only [seqOf, lstOf, Int.toNat_natCast, r, rowO]
theorem stC {st : Sto} {F : Int → Int → Int} {w h : Nat} {i j : Int} (p : Int) (h0 : 0 ≤ i) (h1 : i < h) (h2 : 0 ≤ j) (h3 : j < w) : setI (.loc (st.length + i.toNat)) (.int j) (.int p) (st ++ sheetS F w h) = .ok () (st ++ sheetS (putF F i j p) w h) := by
  obtain ⟨k, rfl⟩ := Int.eq_ofNat_of_zero_le h0
  obtain ⟨m, rfl⟩ := Int.eq_ofNat_of_zero_le h2
  have r := rowAt (st := st) (F := F) (w := w) (h := h) (k := k) (by omega)
  have ix : ixN ((List.range w).map fun (j : Nat) => W.int (F (k : Int) (j : Int))).length (m : Int) = some m := ixN_lt (by simp; omega)
  simp only [setI, Int.toNat_natCast, r, rowO, ix]
  congr 1
  rw [List.set_append_right _ _ (by omega), Nat.add_sub_cancel_left]
  congr 1
  refine List.ext_getElem? fun a => ?_
  by_cases ha : a < h
  · unfold sheetS
    rw [at_range _ ha]
    by_cases hk : k = a
    · subst hk
      rw [List.getElem?_set_self (by simpa using ha)]
      congr 1
      unfold rowO
      congr 1
      refine List.ext_getElem? fun b => ?_
      by_cases hb : b < w
      · rw [at_range _ hb]
        by_cases hm : m = b
        · subst hm
          rw [List.getElem?_set_self (by simpa using hb)]
          unfold putF
          rw [if_pos ⟨rfl, rfl⟩]
        · rw [List.getElem?_set_ne hm, at_range _ hb]
          unfold putF
          rw [if_neg fun z => hm (by omega)]
      · rw [List.getElem?_eq_none (by simp; omega), List.getElem?_eq_none (by simp; omega)]
    · rw [List.getElem?_set_ne hk, at_range _ ha]
      congr 1
      unfold rowO
      congr 1
      refine List.map_congr_left fun b _ => ?_
      unfold putF
      rw [if_neg fun z => hk (by omega)]
  · rw [List.getElem?_eq_none (by simp [sheetS]; omega), List.getElem?_eq_none (by simp [sheetS]; omega)]
/-- one row of a box -/
theorem paint_row {T : W} {st : Sto} {w h : Nat} {p r0 c0 ww hh i : Int} (h0 : 0 ≤ i) (h1 : i < h) : ∀ (n : Nat) (c : Int) (F : Int → Int → Int) (o : Option W), 0 ≤ c → c + n ≤ w → (∀ b, c ≤ b → b < c + n → F i b = 0) →
    ∃ o', forL (gNm 10) b__law_sheet_0 (rngL c n) [some T, some (.int w), some (.int h), some (locsW st.length h), some (.int p), some (.int r0), some (.int c0), some (.int ww), some (.int hh), some (.int i), o] (st ++ sheetS F w h) =
      .nx [some T, some (.int w), some (.int h), some (locsW st.length h), some (.int p), some (.int r0), some (.int c0), some (.int ww), some (.int hh), some (.int i), o'] (st ++ sheetS (fun a b => if a = i ∧ c ≤ b ∧ b < c + n then p else F a b) w h)
  | 0, c, F, o, _, _, _ => ⟨o, by
    have e : (fun a b => if a = i ∧ c ≤ b ∧ b < c + ((0 : Nat) : Int) then p else F a b) = F := funext fun a => funext fun b => if_neg (by omega)
    rw [e]; rfl⟩
  | n + 1, c, F, o, hc, hw, hz => by
    obtain ⟨o', e⟩ := paint_row (T := T) (st := st) (w := w) (h := h) (p := p) (r0 := r0) (c0 := c0) (ww := ww) (hh := hh) h0 h1 n (c + 1) (putF F i c p) (some (.int c)) (by omega) (by omega) (fun b z1 z2 => by
      unfold putF
      rw [if_neg (by omega)]
      exact hz b (by omega) (by omega))
    refine ⟨o', ?_⟩
    have x1 := ixR (n := st.length) h0 h1 (st ++ sheetS F w h)
    have x2 := ixC (st := st) (F := F) h0 h1 hc (show c < w by omega)
    rw [hz c (by omega) (by omega)] at x2
    have x3 := stC (st := st) (F := F) p h0 h1 hc (show c < w by omega)
    have z0 : ((0 : Int) == 0) = true := rfl
    have bd : b__law_sheet_0 [some T, some (.int w), some (.int h), some (locsW st.length h), some (.int p), some (.int r0), some (.int c0), some (.int ww), some (.int hh), some (.int i), some (.int c)] (st ++ sheetS F w h) =
        .nx [some T, some (.int w), some (.int h), some (locsW st.length h), some (.int p), some (.int r0), some (.int c0), some (.int ww), some (.int hh), some (.int i), some (.int c)] (st ++ sheetS (putF F i c p) w h) := by
      unfold b__law_sheet_0
      simp only [bodyD, pad, sqS, ifS, orB, andB, notB, tb, bn, un, vr, kk, rtS, rnS, exS, orE, andE, chn, ifE, trB, passS, noS, setS, asgS, parS, axc, axn, flE, lsE, tupE, clE, mthE, mkE, lmE, forS, sqI, rg1, rg2, gSb, gFd, setFS, augFS, gNm, gTp, gsC, gsN, augS, augI, bkS, ctS, whS, slE, oxn, oxs, lpS, List.map_cons, List.map_nil, List.length_cons, List.length_nil, List.replicate, List.cons_append, List.nil_append, Nat.reduceAdd, Nat.reduceSub, List.getElem?_cons_succ, List.getElem?_cons_zero, List.set_cons_zero, List.set_cons_succ, R.toS_ok, R.bind_ok, R.toS_ite, R.bind_ite, SR.go_nx, SR.go_rt, SR.go_bk, SR.go_ct, SR.go_ite, SR.lp_nx, SR.lp_rt, SR.lp_bk, SR.lp_ct, SR.lp_ite, fin_nx, fin_rt, fin_ite, W.cb_bl, if_true, if_false, Bool.false_eq_true, eq_int, ne_int, eq_bl, ne_bl, mx2, mn2, int0, notW, truW, fdiv_ok, mod_ok, mul_okl, add_int, neg_int, int_bl, int_int, listLF_fl, listF_fl, listF_tup, listLF_tup, Int.reduceLT, Int.reduceLE, Int.reduceNeg, decide_true, decide_false, nxS, nxA, nxE, R.nox_ok, R.nox_ite, SR.nox_nx, SR.nox_rt, SR.nox_ite, R.bind_ex, R.toS_ex, SR.go_ex, fin_ex, x1, x2, x3, z0, Bool.not_true]
    rw [rngL_succ]
    unfold forL
    simp only [bodyD, pad, sqS, ifS, orB, andB, notB, tb, bn, un, vr, kk, rtS, rnS, exS, orE, andE, chn, ifE, trB, passS, noS, setS, asgS, parS, axc, axn, flE, lsE, tupE, clE, mthE, mkE, lmE, forS, sqI, rg1, rg2, gSb, gFd, setFS, augFS, gNm, gTp, gsC, gsN, augS, augI, bkS, ctS, whS, slE, oxn, oxs, lpS, List.map_cons, List.map_nil, List.length_cons, List.length_nil, List.replicate, List.cons_append, List.nil_append, Nat.reduceAdd, Nat.reduceSub, List.getElem?_cons_succ, List.getElem?_cons_zero, List.set_cons_zero, List.set_cons_succ, R.toS_ok, R.bind_ok, R.toS_ite, R.bind_ite, SR.go_nx, SR.go_rt, SR.go_bk, SR.go_ct, SR.go_ite, SR.lp_nx, SR.lp_rt, SR.lp_bk, SR.lp_ct, SR.lp_ite, fin_nx, fin_rt, fin_ite, W.cb_bl, if_true, if_false, Bool.false_eq_true, eq_int, ne_int, eq_bl, ne_bl, mx2, mn2, int0, notW, truW, fdiv_ok, mod_ok, mul_okl, add_int, neg_int, int_bl, int_int, listLF_fl, listF_fl, listF_tup, listLF_tup, Int.reduceLT, Int.reduceLE, Int.reduceNeg, decide_true, decide_false, nxS, nxA, nxE, R.nox_ok, R.nox_ite, SR.nox_nx, SR.nox_rt, SR.nox_ite, R.bind_ex, R.toS_ex, SR.go_ex, fin_ex]
    rw [bd]
    simp only [bodyD, pad, sqS, ifS, orB, andB, notB, tb, bn, un, vr, kk, rtS, rnS, exS, orE, andE, chn, ifE, trB, passS, noS, setS, asgS, parS, axc, axn, flE, lsE, tupE, clE, mthE, mkE, lmE, forS, sqI, rg1, rg2, gSb, gFd, setFS, augFS, gNm, gTp, gsC, gsN, augS, augI, bkS, ctS, whS, slE, oxn, oxs, lpS, List.map_cons, List.map_nil, List.length_cons, List.length_nil, List.replicate, List.cons_append, List.nil_append, Nat.reduceAdd, Nat.reduceSub, List.getElem?_cons_succ, List.getElem?_cons_zero, List.set_cons_zero, List.set_cons_succ, R.toS_ok, R.bind_ok, R.toS_ite, R.bind_ite, SR.go_nx, SR.go_rt, SR.go_bk, SR.go_ct, SR.go_ite, SR.lp_nx, SR.lp_rt, SR.lp_bk, SR.lp_ct, SR.lp_ite, fin_nx, fin_rt, fin_ite, W.cb_bl, if_true, if_false, Bool.false_eq_true, eq_int, ne_int, eq_bl, ne_bl, mx2, mn2, int0, notW, truW, fdiv_ok, mod_ok, mul_okl, add_int, neg_int, int_bl, int_int, listLF_fl, listF_fl, listF_tup, listLF_tup, Int.reduceLT, Int.reduceLE, Int.reduceNeg, decide_true, decide_false, nxS, nxA, nxE, R.nox_ok, R.nox_ite, SR.nox_nx, SR.nox_rt, SR.nox_ite, R.bind_ex, R.toS_ex, SR.go_ex, fin_ex]
    rw [e]
    congr 3
    funext a
    funext b
    unfold putF
    by_cases k1 : a = i ∧ c + 1 ≤ b ∧ b < c + 1 + (n : Int)
    · rw [if_pos k1, if_pos (by omega)]
    · rw [if_neg k1]
      by_cases k2 : a = i ∧ b = c
      · rw [if_pos k2, if_pos (by omega)]
      · rw [if_neg k2, if_neg (by omega)]
theorem paint_rows {T : W} {st : Sto} {w h : Nat} {p r0 c ww hh : Int} (hc : 0 ≤ c) (hw : c + ww ≤ w) (h2 : 0 ≤ ww) (hb : w ≤ 100000) : ∀ (m : Nat) (r : Int) (F : Int → Int → Int) (o o2 : Option W), 0 ≤ r → r + m ≤ h → (∀ a b, r ≤ a → a < r + m → c ≤ b → b < c + ww → F a b = 0) →
    ∃ o' o2', forL (gNm 9) b__law_sheet_1 (rngL r m) [some T, some (.int w), some (.int h), some (locsW st.length h), some (.int p), some (.int r0), some (.int c), some (.int ww), some (.int hh), o, o2] (st ++ sheetS F w h) =
      .nx [some T, some (.int w), some (.int h), some (locsW st.length h), some (.int p), some (.int r0), some (.int c), some (.int ww), some (.int hh), o', o2'] (st ++ sheetS (fun a b => if r ≤ a ∧ a < r + m ∧ c ≤ b ∧ b < c + ww then p else F a b) w h)
  | 0, r, F, o, o2, _, _, _ => ⟨o, o2, by
    have e : (fun a b => if r ≤ a ∧ a < r + ((0 : Nat) : Int) ∧ c ≤ b ∧ b < c + ww then p else F a b) = F := funext fun a => funext fun b => if_neg (by omega)
    rw [e]; rfl⟩
  | m + 1, r, F, o, o2, hr, hh1, hz => by
    have tn : (ww.toNat : Int) = ww := Int.toNat_of_nonneg h2
    obtain ⟨q, e1⟩ := paint_row (T := T) (st := st) (w := w) (h := h) (p := p) (r0 := r0) (c0 := c) (ww := ww) (hh := hh) (i := r) hr (by omega) ww.toNat c F o2 hc (by omega) (fun b z1 z2 => hz r b (by omega) (by omega) z1 (by omega))
    rw [tn] at e1
    obtain ⟨o', o2', e⟩ := paint_rows (T := T) (st := st) (w := w) (h := h) (p := p) (r0 := r0) (hh := hh) hc hw h2 hb m (r + 1) (fun a b => if a = r ∧ c ≤ b ∧ b < c + ww then p else F a b) (some (.int r)) q (by omega) (by omega) (fun a b z1 z2 z3 z4 => by
      show (if a = r ∧ c ≤ b ∧ b < c + ww then p else F a b) = 0
      rw [if_neg (by omega)]
      exact hz a b (by omega) (by omega) z3 z4)
    refine ⟨o', o2', ?_⟩
    have s1 : smI c = true := smI_small hc (by omega)
    have s2 : smI (c + ww) = true := smI_small (by omega) (by omega)
    have s3 : (c + ww - c).toNat = ww.toNat := by congr 1; omega
    have bd : b__law_sheet_1 [some T, some (.int w), some (.int h), some (locsW st.length h), some (.int p), some (.int r0), some (.int c), some (.int ww), some (.int hh), some (.int r), o2] (st ++ sheetS F w h) =
        .nx [some T, some (.int w), some (.int h), some (locsW st.length h), some (.int p), some (.int r0), some (.int c), some (.int ww), some (.int hh), some (.int r), q] (st ++ sheetS (fun a b => if a = r ∧ c ≤ b ∧ b < c + ww then p else F a b) w h) := by
      unfold b__law_sheet_1
      simp only [bodyD, pad, sqS, ifS, orB, andB, notB, tb, bn, un, vr, kk, rtS, rnS, exS, orE, andE, chn, ifE, trB, passS, noS, setS, asgS, parS, axc, axn, flE, lsE, tupE, clE, mthE, mkE, lmE, forS, sqI, rg1, rg2, gSb, gFd, setFS, augFS, gNm, gTp, gsC, gsN, augS, augI, bkS, ctS, whS, slE, oxn, oxs, lpS, List.map_cons, List.map_nil, List.length_cons, List.length_nil, List.replicate, List.cons_append, List.nil_append, Nat.reduceAdd, Nat.reduceSub, List.getElem?_cons_succ, List.getElem?_cons_zero, List.set_cons_zero, List.set_cons_succ, R.toS_ok, R.bind_ok, R.toS_ite, R.bind_ite, SR.go_nx, SR.go_rt, SR.go_bk, SR.go_ct, SR.go_ite, SR.lp_nx, SR.lp_rt, SR.lp_bk, SR.lp_ct, SR.lp_ite, fin_nx, fin_rt, fin_ite, W.cb_bl, if_true, if_false, Bool.false_eq_true, eq_int, ne_int, eq_bl, ne_bl, mx2, mn2, int0, notW, truW, fdiv_ok, mod_ok, mul_okl, add_int, neg_int, int_bl, int_int, listLF_fl, listF_fl, listF_tup, listLF_tup, Int.reduceLT, Int.reduceLE, Int.reduceNeg, decide_true, decide_false, nxS, nxA, nxE, R.nox_ok, R.nox_ite, SR.nox_nx, SR.nox_rt, SR.nox_ite, R.bind_ex, R.toS_ex, SR.go_ex, fin_ex, s1, s2, s3, and_self]
      exact e1
    rw [rngL_succ]
    unfold forL
    simp only [bodyD, pad, sqS, ifS, orB, andB, notB, tb, bn, un, vr, kk, rtS, rnS, exS, orE, andE, chn, ifE, trB, passS, noS, setS, asgS, parS, axc, axn, flE, lsE, tupE, clE, mthE, mkE, lmE, forS, sqI, rg1, rg2, gSb, gFd, setFS, augFS, gNm, gTp, gsC, gsN, augS, augI, bkS, ctS, whS, slE, oxn, oxs, lpS, List.map_cons, List.map_nil, List.length_cons, List.length_nil, List.replicate, List.cons_append, List.nil_append, Nat.reduceAdd, Nat.reduceSub, List.getElem?_cons_succ, List.getElem?_cons_zero, List.set_cons_zero, List.set_cons_succ, R.toS_ok, R.bind_ok, R.toS_ite, R.bind_ite, SR.go_nx, SR.go_rt, SR.go_bk, SR.go_ct, SR.go_ite, SR.lp_nx, SR.lp_rt, SR.lp_bk, SR.lp_ct, SR.lp_ite, fin_nx, fin_rt, fin_ite, W.cb_bl, if_true, if_false, Bool.false_eq_true, eq_int, ne_int, eq_bl, ne_bl, mx2, mn2, int0, notW, truW, fdiv_ok, mod_ok, mul_okl, add_int, neg_int, int_bl, int_int, listLF_fl, listF_fl, listF_tup, listLF_tup, Int.reduceLT, Int.reduceLE, Int.reduceNeg, decide_true, decide_false, nxS, nxA, nxE, R.nox_ok, R.nox_ite, SR.nox_nx, SR.nox_rt, SR.nox_ite, R.bind_ex, R.toS_ex, SR.go_ex, fin_ex]
    rw [bd]
    simp only [bodyD, pad, sqS, ifS, orB, andB, notB, tb, bn, un, vr, kk, rtS, rnS, exS, orE, andE, chn, ifE, trB, passS, noS, setS, asgS, parS, axc, axn, flE, lsE, tupE, clE, mthE, mkE, lmE, forS, sqI, rg1, rg2, gSb, gFd, setFS, augFS, gNm, gTp, gsC, gsN, augS, augI, bkS, ctS, whS, slE, oxn, oxs, lpS, List.map_cons, List.map_nil, List.length_cons, List.length_nil, List.replicate, List.cons_append, List.nil_append, Nat.reduceAdd, Nat.reduceSub, List.getElem?_cons_succ, List.getElem?_cons_zero, List.set_cons_zero, List.set_cons_succ, R.toS_ok, R.bind_ok, R.toS_ite, R.bind_ite, SR.go_nx, SR.go_rt, SR.go_bk, SR.go_ct, SR.go_ite, SR.lp_nx, SR.lp_rt, SR.lp_bk, SR.lp_ct, SR.lp_ite, fin_nx, fin_rt, fin_ite, W.cb_bl, if_true, if_false, Bool.false_eq_true, eq_int, ne_int, eq_bl, ne_bl, mx2, mn2, int0, notW, truW, fdiv_ok, mod_ok, mul_okl, add_int, neg_int, int_bl, int_int, listLF_fl, listF_fl, listF_tup, listLF_tup, Int.reduceLT, Int.reduceLE, Int.reduceNeg, decide_true, decide_false, nxS, nxA, nxE, R.nox_ok, R.nox_ite, SR.nox_nx, SR.nox_rt, SR.nox_ite, R.bind_ex, R.toS_ex, SR.go_ex, fin_ex]
    rw [e]
    congr 3
    funext a
    funext b
    by_cases k1 : r + 1 ≤ a ∧ a < r + 1 + (m : Int) ∧ c ≤ b ∧ b < c + ww
    · rw [if_pos k1, if_pos (by omega)]
    · rw [if_neg k1]
      by_cases k2 : a = r ∧ c ≤ b ∧ b < c + ww
      · rw [if_pos k2, if_pos (by omega)]
      · rw [if_neg k2, if_neg (by omega)]
theorem cellAt_zero {i j : Int} : ∀ {bs : List Box}, (∀ x ∈ bs, ¬ inB x i j) → cellAt bs i j = 0
  | [], _ => rfl
  | x :: xs, h => by
    show (if inB x i j then x.1 else 0) + cellAt xs i j = 0
    rw [if_neg (h x (by simp)), cellAt_zero fun y hy => h y (by simp [hy])]
    rfl
theorem paint_all {T : W} {st : Sto} {w h : Nat} (hb : w ≤ 100000) (hb2 : h ≤ 100000) : ∀ (bs pre : List Box) (o4 o5 o6 o7 o8 o9 o10 : Option W), (∀ b ∈ bs, boxIn b 0 0 w h) → (pre ++ bs).Pairwise apart →
    ∃ o4' o5' o6' o7' o8' o9' o10', forL (gTp 5 (gsC (gNm 4) (gsC (gNm 5) (gsC (gNm 6) (gsC (gNm 7) (gsC (gNm 8) gsN)))))) b__law_sheet_2 (bs.map boxW) [some T, some (.int w), some (.int h), some (locsW st.length h), o4, o5, o6, o7, o8, o9, o10] (st ++ sheetS (cellAt pre) w h) =
      .nx [some T, some (.int w), some (.int h), some (locsW st.length h), o4', o5', o6', o7', o8', o9', o10'] (st ++ sheetS (cellAt (pre ++ bs)) w h)
  | [], pre, o4, o5, o6, o7, o8, o9, o10, _, _ => ⟨o4, o5, o6, o7, o8, o9, o10, by rw [List.append_nil]; rfl⟩
  | (p, r, c, ww, hh) :: bs, pre, o4, o5, o6, o7, o8, o9, o10, hi, hp => by
    obtain ⟨a1, a2, a3, a4, a5, a6, a7⟩ := hi (p, r, c, ww, hh) (by simp)
    simp only at a1 a2 a3 a4 a5 a6 a7
    have free : ∀ a b, r ≤ a → a < r + hh → c ≤ b → b < c + ww → cellAt pre a b = 0 := fun a b z1 z2 z3 z4 => by
      refine cellAt_zero fun x hx z => ?_
      rw [List.pairwise_append] at hp
      exact hp.2.2 x hx (p, r, c, ww, hh) (by simp) a b z ⟨z1, z2, z3, z4⟩
    have tn : (hh.toNat : Int) = hh := Int.toNat_of_nonneg (by omega)
    obtain ⟨q9, q10, e1⟩ := paint_rows (T := T) (st := st) (w := w) (h := h) (p := p) (r0 := r) (c := c) (ww := ww) (hh := hh) a4 (by omega) (by omega) hb hh.toNat r (cellAt pre) o9 o10 a2 (by omega) (fun a b z1 z2 z3 z4 => free a b z1 (by omega) z3 z4)
    rw [tn] at e1
    have eF : (fun a b => if r ≤ a ∧ a < r + hh ∧ c ≤ b ∧ b < c + ww then p else cellAt pre a b) = cellAt (pre ++ [(p, r, c, ww, hh)]) := by
      funext a
      funext b
      rw [cellAt_app]
      show _ = cellAt pre a b + ((if inB (p, r, c, ww, hh) a b then p else 0) + 0)
      by_cases k : r ≤ a ∧ a < r + hh ∧ c ≤ b ∧ b < c + ww
      · rw [if_pos k, if_pos (show inB (p, r, c, ww, hh) a b from k), free a b k.1 k.2.1 k.2.2.1 k.2.2.2]; omega
      · rw [if_neg k, if_neg (show ¬ inB (p, r, c, ww, hh) a b from k)]; omega
    rw [eF] at e1
    obtain ⟨o4', o5', o6', o7', o8', o9', o10', e⟩ := paint_all (T := T) (st := st) (w := w) (h := h) hb hb2 bs (pre ++ [(p, r, c, ww, hh)]) (some (.int p)) (some (.int r)) (some (.int c)) (some (.int ww)) (some (.int hh)) q9 q10 (fun b hb => hi b (by simp [hb])) (by rw [List.append_assoc]; exact hp)
    refine ⟨o4', o5', o6', o7', o8', o9', o10', ?_⟩
    have s1 : smI r = true := smI_small a2 (by omega)
    have s2 : smI (r + hh) = true := smI_small (by omega) (by omega)
    have s3 : (r + hh - r).toNat = hh.toNat := by congr 1; omega
    have k1 : ¬ ww < 2 := by omega
    have k2 : ¬ hh < 1 := by omega
    have k3 : ¬ r < 0 := by omega
    have k4 : ¬ c < 0 := by omega
    have k5 : ¬ (h : Int) < r + hh := by omega
    have k6 : ¬ (w : Int) < c + ww := by omega
    have bd : b__law_sheet_2 [some T, some (.int w), some (.int h), some (locsW st.length h), some (.int p), some (.int r), some (.int c), some (.int ww), some (.int hh), o9, o10] (st ++ sheetS (cellAt pre) w h) =
        .nx [some T, some (.int w), some (.int h), some (locsW st.length h), some (.int p), some (.int r), some (.int c), some (.int ww), some (.int hh), q9, q10] (st ++ sheetS (cellAt (pre ++ [(p, r, c, ww, hh)])) w h) := by
      unfold b__law_sheet_2
      simp only [bodyD, pad, sqS, ifS, orB, andB, notB, tb, bn, un, vr, kk, rtS, rnS, exS, orE, andE, chn, ifE, trB, passS, noS, setS, asgS, parS, axc, axn, flE, lsE, tupE, clE, mthE, mkE, lmE, forS, sqI, rg1, rg2, gSb, gFd, setFS, augFS, gNm, gTp, gsC, gsN, augS, augI, bkS, ctS, whS, slE, oxn, oxs, lpS, List.map_cons, List.map_nil, List.length_cons, List.length_nil, List.replicate, List.cons_append, List.nil_append, Nat.reduceAdd, Nat.reduceSub, List.getElem?_cons_succ, List.getElem?_cons_zero, List.set_cons_zero, List.set_cons_succ, R.toS_ok, R.bind_ok, R.toS_ite, R.bind_ite, SR.go_nx, SR.go_rt, SR.go_bk, SR.go_ct, SR.go_ite, SR.lp_nx, SR.lp_rt, SR.lp_bk, SR.lp_ct, SR.lp_ite, fin_nx, fin_rt, fin_ite, W.cb_bl, if_true, if_false, Bool.false_eq_true, eq_int, ne_int, eq_bl, ne_bl, mx2, mn2, int0, notW, truW, fdiv_ok, mod_ok, mul_okl, add_int, neg_int, int_bl, int_int, listLF_fl, listF_fl, listF_tup, listLF_tup, Int.reduceLT, Int.reduceLE, Int.reduceNeg, decide_true, decide_false, nxS, nxA, nxE, R.nox_ok, R.nox_ite, SR.nox_nx, SR.nox_rt, SR.nox_ite, R.bind_ex, R.toS_ex, SR.go_ex, fin_ex, k1, k2, k3, k4, k5, k6, decide_false, s1, s2, s3, and_self]
      exact e1
    rw [List.map_cons]
    unfold forL
    simp only [bodyD, pad, sqS, ifS, orB, andB, notB, tb, bn, un, vr, kk, rtS, rnS, exS, orE, andE, chn, ifE, trB, passS, noS, setS, asgS, parS, axc, axn, flE, lsE, tupE, clE, mthE, mkE, lmE, forS, sqI, rg1, rg2, gSb, gFd, setFS, augFS, gNm, gTp, gsC, gsN, augS, augI, bkS, ctS, whS, slE, oxn, oxs, lpS, List.map_cons, List.map_nil, List.length_cons, List.length_nil, List.replicate, List.cons_append, List.nil_append, Nat.reduceAdd, Nat.reduceSub, List.getElem?_cons_succ, List.getElem?_cons_zero, List.set_cons_zero, List.set_cons_succ, R.toS_ok, R.bind_ok, R.toS_ite, R.bind_ite, SR.go_nx, SR.go_rt, SR.go_bk, SR.go_ct, SR.go_ite, SR.lp_nx, SR.lp_rt, SR.lp_bk, SR.lp_ct, SR.lp_ite, fin_nx, fin_rt, fin_ite, W.cb_bl, if_true, if_false, Bool.false_eq_true, eq_int, ne_int, eq_bl, ne_bl, mx2, mn2, int0, notW, truW, fdiv_ok, mod_ok, mul_okl, add_int, neg_int, int_bl, int_int, listLF_fl, listF_fl, listF_tup, listLF_tup, Int.reduceLT, Int.reduceLE, Int.reduceNeg, decide_true, decide_false, nxS, nxA, nxE, R.nox_ok, R.nox_ite, SR.nox_nx, SR.nox_rt, SR.nox_ite, R.bind_ex, R.toS_ex, SR.go_ex, fin_ex, boxW]
    rw [bd]
    simp only [bodyD, pad, sqS, ifS, orB, andB, notB, tb, bn, un, vr, kk, rtS, rnS, exS, orE, andE, chn, ifE, trB, passS, noS, setS, asgS, parS, axc, axn, flE, lsE, tupE, clE, mthE, mkE, lmE, forS, sqI, rg1, rg2, gSb, gFd, setFS, augFS, gNm, gTp, gsC, gsN, augS, augI, bkS, ctS, whS, slE, oxn, oxs, lpS, List.map_cons, List.map_nil, List.length_cons, List.length_nil, List.replicate, List.cons_append, List.nil_append, Nat.reduceAdd, Nat.reduceSub, List.getElem?_cons_succ, List.getElem?_cons_zero, List.set_cons_zero, List.set_cons_succ, R.toS_ok, R.bind_ok, R.toS_ite, R.bind_ite, SR.go_nx, SR.go_rt, SR.go_bk, SR.go_ct, SR.go_ite, SR.lp_nx, SR.lp_rt, SR.lp_bk, SR.lp_ct, SR.lp_ite, fin_nx, fin_rt, fin_ite, W.cb_bl, if_true, if_false, Bool.false_eq_true, eq_int, ne_int, eq_bl, ne_bl, mx2, mn2, int0, notW, truW, fdiv_ok, mod_ok, mul_okl, add_int, neg_int, int_bl, int_int, listLF_fl, listF_fl, listF_tup, listLF_tup, Int.reduceLT, Int.reduceLE, Int.reduceNeg, decide_true, decide_false, nxS, nxA, nxE, R.nox_ok, R.nox_ite, SR.nox_nx, SR.nox_rt, SR.nox_ite, R.bind_ex, R.toS_ex, SR.go_ex, fin_ex]
    rw [e, List.append_assoc]
    rfl
theorem rows_new {w : Nat} {T : W} {o : Option W} (rest : List (Option W)) : ∀ (n : Nat) (lo : Int) (k : Nat) (st : Sto), (w : Int) < 1000000 →
    lcL (ct1 5) yesB (bn mulLW (flE (axc (kk (.int 0)) axn)) (vr 1)) (some T :: some (.int w) :: o :: rest) (rngL lo n) (st ++ List.replicate k (.lst (List.replicate w (.int 0)))) =
      .ok ((List.range n).map fun (i : Nat) => W.loc (st.length + k + i)) (st ++ List.replicate (k + n) (.lst (List.replicate w (.int 0))))
  | 0, lo, k, st, _ => rfl
  | n + 1, lo, k, st, hw => by
    have ih := rows_new (w := w) (T := T) (o := o) rest n (lo + 1) (k + 1) st hw
    have fl : ∀ m : Nat, (List.replicate m [W.int 0]).flatten = List.replicate m (W.int 0) := fun m => by
      induction m with
      | zero => rfl
      | succ m ih => rw [List.replicate_succ, List.flatten_cons, ih]; rfl
    have ml : mulLW (.fl [.int 0]) (.int (w : Int)) (st ++ List.replicate k (.lst (List.replicate w (.int 0)))) = .ok (.loc (st.length + k)) (st ++ List.replicate (k + 1) (.lst (List.replicate w (.int 0)))) := by
      unfold mulLW
      simp only [lstOf, List.length_cons, List.length_nil, Int.toNat_natCast]
      rw [if_pos (ck_iff.mpr ⟨by omega, by omega, by omega⟩), fl, List.length_append, List.length_replicate, List.append_assoc, ← List.replicate_succ']
    rw [rngL_succ]
    unfold lcL
    have ev : (bn mulLW (flE (axc (kk (.int 0)) axn)) (vr 1)) ((some T :: some (.int w) :: o :: rest).set 5 (some (.int lo))) (st ++ List.replicate k (.lst (List.replicate w (.int 0)))) = .ok (.loc (st.length + k)) (st ++ List.replicate (k + 1) (.lst (List.replicate w (.int 0)))) := by
      simp only [bodyD, pad, sqS, ifS, orB, andB, notB, tb, bn, un, vr, kk, rtS, rnS, exS, orE, andE, chn, ifE, trB, passS, noS, setS, asgS, parS, axc, axn, flE, lsE, tupE, clE, mthE, mkE, lmE, forS, sqI, rg1, rg2, gSb, gFd, setFS, augFS, gNm, gTp, gsC, gsN, augS, augI, bkS, ctS, whS, slE, oxn, oxs, lpS, List.map_cons, List.map_nil, List.length_cons, List.length_nil, List.replicate, List.cons_append, List.nil_append, Nat.reduceAdd, Nat.reduceSub, List.getElem?_cons_succ, List.getElem?_cons_zero, List.set_cons_zero, List.set_cons_succ, R.toS_ok, R.bind_ok, R.toS_ite, R.bind_ite, SR.go_nx, SR.go_rt, SR.go_bk, SR.go_ct, SR.go_ite, SR.lp_nx, SR.lp_rt, SR.lp_bk, SR.lp_ct, SR.lp_ite, fin_nx, fin_rt, fin_ite, W.cb_bl, if_true, if_false, Bool.false_eq_true, eq_int, ne_int, eq_bl, ne_bl, mx2, mn2, int0, notW, truW, fdiv_ok, mod_ok, mul_okl, add_int, neg_int, int_bl, int_int, listLF_fl, listF_fl, listF_tup, listLF_tup, Int.reduceLT, Int.reduceLE, Int.reduceNeg, decide_true, decide_false, nxS, nxA, nxE, R.nox_ok, R.nox_ite, SR.nox_nx, SR.nox_rt, SR.nox_ite, R.bind_ex, R.toS_ex, SR.go_ex, fin_ex, ml]
    simp only [ct1, yesB, R.bind_ok, if_true, ev, ih]
    congr 1
    · rw [List.range_succ_eq_map, List.map_cons, List.map_map]
      congr 1
      refine List.map_congr_left fun i _ => ?_
      show W.loc (st.length + (k + 1) + i) = W.loc (st.length + k + (i + 1))
      congr 1
      omega
    · rw [Nat.add_right_comm]; rfl
theorem sheet_zero (w h : Nat) : sheetS (cellAt []) w h = List.replicate h (.lst (List.replicate w (.int 0))) := by
  unfold sheetS rowO cellAt
  rw [List.map_const', List.length_range]
  congr 2
  rw [List.map_const', List.length_range]
theorem sheet_run {st : Sto} {w h : Nat} (hb : w ≤ 100000) (hb2 : h ≤ 100000) {bs : List Box} (hi : ∀ b ∈ bs, boxIn b 0 0 w h) (hp : bs.Pairwise apart) : r__law_sheet [.fl (bs.map boxW), .int w, .int h] st = .ok (locsW st.length h) (st ++ sheetS (cellAt bs) w h) := by
  have rn := rows_new (w := w) (T := .fl (bs.map boxW)) (o := some (.int (h : Int))) [none, none, none, none, none, none, none, none] h 0 0 st (by omega)
  rw [Nat.zero_add, List.replicate_zero, List.append_nil, Nat.add_zero, ← sheet_zero] at rn
  have sm : smI (h : Int) = true := smI_small (by omega) (by omega)
  have lc : lcE [5] (rg1 (axc (vr 2) axn)) (ct1 5) yesB (bn mulLW (flE (axc (kk (.int 0)) axn)) (vr 1)) [some (.fl (bs.map boxW)), some (.int w), some (.int h), none, none, none, none, none, none, none, none] st = .ok (locsW st.length h) (st ++ sheetS (cellAt []) w h) := by
    unfold lcE lcS
    have hm : rg1 (axc (vr 2) axn) [some (.fl (bs.map boxW)), some (.int w), some (.int h), none, none, none, none, none, none, none, none] st = .ok (.st (rngL 0 h)) st := by
      simp only [bodyD, pad, sqS, ifS, orB, andB, notB, tb, bn, un, vr, kk, rtS, rnS, exS, orE, andE, chn, ifE, trB, passS, noS, setS, asgS, parS, axc, axn, flE, lsE, tupE, clE, mthE, mkE, lmE, forS, sqI, rg1, rg2, gSb, gFd, setFS, augFS, gNm, gTp, gsC, gsN, augS, augI, bkS, ctS, whS, slE, oxn, oxs, lpS, List.map_cons, List.map_nil, List.length_cons, List.length_nil, List.replicate, List.cons_append, List.nil_append, Nat.reduceAdd, Nat.reduceSub, List.getElem?_cons_succ, List.getElem?_cons_zero, List.set_cons_zero, List.set_cons_succ, R.toS_ok, R.bind_ok, R.toS_ite, R.bind_ite, SR.go_nx, SR.go_rt, SR.go_bk, SR.go_ct, SR.go_ite, SR.lp_nx, SR.lp_rt, SR.lp_bk, SR.lp_ct, SR.lp_ite, fin_nx, fin_rt, fin_ite, W.cb_bl, if_true, if_false, Bool.false_eq_true, eq_int, ne_int, eq_bl, ne_bl, mx2, mn2, int0, notW, truW, fdiv_ok, mod_ok, mul_okl, add_int, neg_int, int_bl, int_int, listLF_fl, listF_fl, listF_tup, listLF_tup, Int.reduceLT, Int.reduceLE, Int.reduceNeg, decide_true, decide_false, nxS, nxA, nxE, R.nox_ok, R.nox_ite, SR.nox_nx, SR.nox_rt, SR.nox_ite, R.bind_ex, R.toS_ex, SR.go_ex, fin_ex, sm, Int.toNat_natCast]
    rw [hm, R.bind_ok]
    simp only
    rw [if_pos (ck_iff.mpr (by unfold rngL; rw [List.length_map, List.length_range]; omega))]
    have : wipeE [some (.fl (bs.map boxW)), some (.int w), some (.int h), none, none, none, none, none, none, none, none] [5] = [some (.fl (bs.map boxW)), some (.int w), some (.int h), none, none, none, none, none, none, none, none] := rfl
    rw [this, rn]
    rfl
  obtain ⟨o4, o5, o6, o7, o8, o9, o10, e⟩ := paint_all (T := .fl (bs.map boxW)) (st := st) hb hb2 bs [] none none none none none none none hi hp
  rw [List.nil_append] at e
  unfold r__law_sheet
  refine body_of ?_
  rw [sq_nx (e := [some (.fl (bs.map boxW)), some (.int w), some (.int h), some (locsW st.length h), none, none, none, none, none, none, none]) (s := st ++ sheetS (cellAt []) w h) (by simp only [bodyD, pad, sqS, ifS, orB, andB, notB, tb, bn, un, vr, kk, rtS, rnS, exS, orE, andE, chn, ifE, trB, passS, noS, setS, asgS, parS, axc, axn, flE, lsE, tupE, clE, mthE, mkE, lmE, forS, sqI, rg1, rg2, gSb, gFd, setFS, augFS, gNm, gTp, gsC, gsN, augS, augI, bkS, ctS, whS, slE, oxn, oxs, lpS, List.map_cons, List.map_nil, List.length_cons, List.length_nil, List.replicate, List.cons_append, List.nil_append, Nat.reduceAdd, Nat.reduceSub, List.getElem?_cons_succ, List.getElem?_cons_zero, List.set_cons_zero, List.set_cons_succ, R.toS_ok, R.bind_ok, R.toS_ite, R.bind_ite, SR.go_nx, SR.go_rt, SR.go_bk, SR.go_ct, SR.go_ite, SR.lp_nx, SR.lp_rt, SR.lp_bk, SR.lp_ct, SR.lp_ite, fin_nx, fin_rt, fin_ite, W.cb_bl, if_true, if_false, Bool.false_eq_true, eq_int, ne_int, eq_bl, ne_bl, mx2, mn2, int0, notW, truW, fdiv_ok, mod_ok, mul_okl, add_int, neg_int, int_bl, int_int, listLF_fl, listF_fl, listF_tup, listLF_tup, Int.reduceLT, Int.reduceLE, Int.reduceNeg, decide_true, decide_false, nxS, nxA, nxE, R.nox_ok, R.nox_ite, SR.nox_nx, SR.nox_rt, SR.nox_ite, R.bind_ex, R.toS_ex, SR.go_ex, fin_ex, pad, lc])]
  rw [sq_nx (by simp only [bodyD, pad, sqS, ifS, orB, andB, notB, tb, bn, un, vr, kk, rtS, rnS, exS, orE, andE, chn, ifE, trB, passS, noS, setS, asgS, parS, axc, axn, flE, lsE, tupE, clE, mthE, mkE, lmE, forS, sqI, rg1, rg2, gSb, gFd, setFS, augFS, gNm, gTp, gsC, gsN, augS, augI, bkS, ctS, whS, slE, oxn, oxs, lpS, List.map_cons, List.map_nil, List.length_cons, List.length_nil, List.replicate, List.cons_append, List.nil_append, Nat.reduceAdd, Nat.reduceSub, List.getElem?_cons_succ, List.getElem?_cons_zero, List.set_cons_zero, List.set_cons_succ, R.toS_ok, R.bind_ok, R.toS_ite, R.bind_ite, SR.go_nx, SR.go_rt, SR.go_bk, SR.go_ct, SR.go_ite, SR.lp_nx, SR.lp_rt, SR.lp_bk, SR.lp_ct, SR.lp_ite, fin_nx, fin_rt, fin_ite, W.cb_bl, if_true, if_false, Bool.false_eq_true, eq_int, ne_int, eq_bl, ne_bl, mx2, mn2, int0, notW, truW, fdiv_ok, mod_ok, mul_okl, add_int, neg_int, int_bl, int_int, listLF_fl, listF_fl, listF_tup, listLF_tup, Int.reduceLT, Int.reduceLE, Int.reduceNeg, decide_true, decide_false, nxS, nxA, nxE, R.nox_ok, R.nox_ite, SR.nox_nx, SR.nox_rt, SR.nox_ite, R.bind_ex, R.toS_ex, SR.go_ex, fin_ex]; exact e)]
  simp only [bodyD, pad, sqS, ifS, orB, andB, notB, tb, bn, un, vr, kk, rtS, rnS, exS, orE, andE, chn, ifE, trB, passS, noS, setS, asgS, parS, axc, axn, flE, lsE, tupE, clE, mthE, mkE, lmE, forS, sqI, rg1, rg2, gSb, gFd, setFS, augFS, gNm, gTp, gsC, gsN, augS, augI, bkS, ctS, whS, slE, oxn, oxs, lpS, List.map_cons, List.map_nil, List.length_cons, List.length_nil, List.replicate, List.cons_append, List.nil_append, Nat.reduceAdd, Nat.reduceSub, List.getElem?_cons_succ, List.getElem?_cons_zero, List.set_cons_zero, List.set_cons_succ, R.toS_ok, R.bind_ok, R.toS_ite, R.bind_ite, SR.go_nx, SR.go_rt, SR.go_bk, SR.go_ct, SR.go_ite, SR.lp_nx, SR.lp_rt, SR.lp_bk, SR.lp_ct, SR.lp_ite, fin_nx, fin_rt, fin_ite, W.cb_bl, if_true, if_false, Bool.false_eq_true, eq_int, ne_int, eq_bl, ne_bl, mx2, mn2, int0, notW, truW, fdiv_ok, mod_ok, mul_okl, add_int, neg_int, int_bl, int_int, listLF_fl, listF_fl, listF_tup, listLF_tup, Int.reduceLT, Int.reduceLE, Int.reduceNeg, decide_true, decide_false, nxS, nxA, nxE, R.nox_ok, R.nox_ite, SR.nox_nx, SR.nox_rt, SR.nox_ite, R.bind_ex, R.toS_ex, SR.go_ex, fin_ex]
def d__law_sheet : List W → Sto → R W := pureF (fun a : List Box × Nat × Nat => [.fl (a.1.map boxW), .int a.2.1, .int a.2.2]) (fun a => (∀ b ∈ a.1, boxIn b 0 0 a.2.1 a.2.2) ∧ a.1.Pairwise apart ∧ a.2.1 ≤ 100000 ∧ a.2.2 ≤ 100000) (fun a => gridW (cellAt a.1) a.2.1 a.2.2)
theorem sheet_enc {a b : List Box × Nat × Nat} (e : [W.fl (a.1.map boxW), .int a.2.1, .int a.2.2] = [W.fl (b.1.map boxW), .int b.2.1, .int b.2.2]) : a = b := by
  obtain ⟨a1, a2, a3⟩ := a
  obtain ⟨b1, b2, b3⟩ := b
  simp only [List.cons.injEq, W.fl.injEq, W.int.injEq] at e
  obtain ⟨e1, e2, e3, _⟩ := e
  rw [boxsW_inj e1, Int.ofNat.inj e2, Int.ofNat.inj e3]
theorem sheet_ok {bs : List Box} {w h : Nat} {st : Sto} (hi : ∀ b ∈ bs, boxIn b 0 0 w h) (hp : bs.Pairwise apart) (hb : w ≤ 100000) (hb2 : h ≤ 100000) : d__law_sheet [.fl (bs.map boxW), .int w, .int h] st = .ok (gridW (cellAt bs) w h) st :=
  pureF_ok (fun a b e => sheet_enc e) (a := (bs, w, h)) ⟨hi, hp, hb, hb2⟩
theorem gz__law_sheet : Gz 3 r__law_sheet d__law_sheet := by
  refine gz_pureF fun ⟨bs, w, h⟩ st ⟨hi, hp, hb, hb2⟩ => ⟨_, _, sheet_run (st := st) hb hb2 hi hp, .fl ?_⟩
  have key : ∀ (ns : List Nat), (∀ i ∈ ns, i < h) → FzL st.length (st ++ sheetS (cellAt bs) w h) (ns.map fun i => W.loc (st.length + i)) (ns.map fun (i : Nat) => W.fl ((List.range w).map fun (j : Nat) => W.int (cellAt bs (i : Int) (j : Int)))) := by
    intro ns
    induction ns with
    | nil => intro _; exact .nil
    | cons n ns ih =>
      intro hn
      exact .cons (.locC (by omega) (rowAt (hn n (by simp))) (Cl.map fun j => .int _)) (ih fun i hi => hn i (by simp [hi]))
  exact key _ fun i hi => List.mem_range.mp hi

/-! axis_of -/
def r_axis_of : List W → Sto → R W := bodyD 1 (rtS (ifE (tb (bn eqW (vr 0) (kk (.str "beside")))) (kk (.int 0)) (kk (.int 1))))
abbrev d_axis_of : List W → Sto → R W := r_axis_of
theorem axis_of_ok (b : Bool) (st : Sto) : r_axis_of [.str (wayS b)] st = .ok (.int (if b then 1 else 0)) st := by
  unfold r_axis_of
  cases b
  · simp only [bodyD, pad, sqS, ifS, orB, andB, notB, tb, bn, un, vr, kk, rtS, rnS, exS, orE, andE, chn, ifE, trB, passS, noS, setS, asgS, parS, axc, axn, flE, lsE, tupE, clE, mthE, mkE, lmE, forS, sqI, rg1, rg2, gSb, gFd, setFS, augFS, gNm, gTp, gsC, gsN, augS, augI, bkS, ctS, whS, slE, oxn, oxs, lpS, List.map_cons, List.map_nil, List.length_cons, List.length_nil, List.replicate, List.cons_append, List.nil_append, Nat.reduceAdd, Nat.reduceSub, List.getElem?_cons_succ, List.getElem?_cons_zero, List.set_cons_zero, List.set_cons_succ, R.toS_ok, R.bind_ok, R.toS_ite, R.bind_ite, SR.go_nx, SR.go_rt, SR.go_bk, SR.go_ct, SR.go_ite, SR.lp_nx, SR.lp_rt, SR.lp_bk, SR.lp_ct, SR.lp_ite, fin_nx, fin_rt, fin_ite, W.cb_bl, if_true, if_false, Bool.false_eq_true, eq_int, ne_int, eq_bl, ne_bl, mx2, mn2, int0, notW, truW, fdiv_ok, mod_ok, mul_okl, add_int, neg_int, int_bl, int_int, listLF_fl, listF_fl, listF_tup, listLF_tup, Int.reduceLT, Int.reduceLE, Int.reduceNeg, decide_true, decide_false, nxS, nxA, nxE, R.nox_ok, R.nox_ite, SR.nox_nx, SR.nox_rt, SR.nox_ite, R.bind_ex, R.toS_ex, SR.go_ex, fin_ex, eq_beside, Bool.not_false]
  · simp only [bodyD, pad, sqS, ifS, orB, andB, notB, tb, bn, un, vr, kk, rtS, rnS, exS, orE, andE, chn, ifE, trB, passS, noS, setS, asgS, parS, axc, axn, flE, lsE, tupE, clE, mthE, mkE, lmE, forS, sqI, rg1, rg2, gSb, gFd, setFS, augFS, gNm, gTp, gsC, gsN, augS, augI, bkS, ctS, whS, slE, oxn, oxs, lpS, List.map_cons, List.map_nil, List.length_cons, List.length_nil, List.replicate, List.cons_append, List.nil_append, Nat.reduceAdd, Nat.reduceSub, List.getElem?_cons_succ, List.getElem?_cons_zero, List.set_cons_zero, List.set_cons_succ, R.toS_ok, R.bind_ok, R.toS_ite, R.bind_ite, SR.go_nx, SR.go_rt, SR.go_bk, SR.go_ct, SR.go_ite, SR.lp_nx, SR.lp_rt, SR.lp_bk, SR.lp_ct, SR.lp_ite, fin_nx, fin_rt, fin_ite, W.cb_bl, if_true, if_false, Bool.false_eq_true, eq_int, ne_int, eq_bl, ne_bl, mx2, mn2, int0, notW, truW, fdiv_ok, mod_ok, mul_okl, add_int, neg_int, int_bl, int_int, listLF_fl, listF_fl, listF_tup, listLF_tup, Int.reduceLT, Int.reduceLE, Int.reduceNeg, decide_true, decide_false, nxS, nxA, nxE, R.nox_ok, R.nox_ite, SR.nox_nx, SR.nox_rt, SR.nox_ite, R.bind_ex, R.toS_ex, SR.go_ex, fin_ex, eq_beside, Bool.not_true]

def d_least (n : Nat) : List W → Sto → R W := pureF (fun L : Lay => [layW L]) (Good n) (fun L => lowW L.low)

/-! least -/
def r_least : Nat → List W → Sto → R W
  | 0 => bodyD 8 noS
  | n + 1 => bodyD 8 (sqS (ifS (trB (un (isiW .int) (vr 0))) (rtS (kk w_LEAST_PANE)) passS) (sqS (setS 1 (lcE [5, 6] (sqI (bn ixW (vr 0) (kk (.int 1)))) (ct2 5 6) yesB (clE (d_least n) (axc (vr 5) axn)))) (sqS (setS 2 (lcE [7] (sqI (vr 1)) (ct1 7) yesB (bn ixW (vr 7) (kk (.int 0))))) (sqS (setS 3 (lcE [7] (sqI (vr 1)) (ct1 7) yesB (bn ixW (vr 7) (kk (.int 1))))) (sqS (setS 4 (bn subW (clE lenF (axc (vr 1) axn)) (kk (.int 1)))) (sqS (ifS (tb (bn eqW (bn ixW (vr 0) (kk (.int 0))) (kk (.str "beside")))) (rtS (tupE (axc (bn addW (clE sumF (axc (vr 2) axn)) (vr 4)) (axc (clE maxF (axc (vr 3) axn)) axn)))) passS) (rtS (tupE (axc (clE maxF (axc (vr 2) axn)) (axc (bn addW (clE sumF (axc (vr 3) axn)) (vr 4)) axn))))))))))
theorem least_ok {n : Nat} {L : Lay} {st : Sto} (h : Good n L) : d_least n [layW L] st = .ok (lowW L.low) st :=
  pureF_ok (fun a b e => lay_inj (List.cons.inj e).1) h
theorem gz_least (n : Nat) : Gz 1 (r_least n) (d_least n) := by
  refine gz_pureF0 (fun a _ => lowW_cl _) fun L st h => ⟨[], ?_⟩
  rw [List.append_nil]
  cases n with
  | zero => exact h.zero.elim
  | succ n =>
    cases L with
    | pane p => rw [layW_pane, low_pane]; unfold r_least; simp [bodyD, pad, sqS, ifS, orB, andB, notB, tb, bn, un, addW, mulW, negW, notW, mulOk, int0, intW, vr, kk, rtS, rnS, exS, orE, andE, chn, ifE, trB, truW, lstOf, seqOf, lstK, passS, noS, setS, asgS, parS, axc, axn, flE, lsE, tupE, clE, mthE, mkE, isIns, fldW, setFS, augFS, setFd, gFd, gNm, gTp, gsC, gsN, augS, lenF, absF, intF, allF, anyF, sumF, maxF, minF, listF, listLF, tupF, isiW, tyOf, Ty.le, ixW, lmE, appF, extF, popF, flatW, veqW, inW, ninW, forS, sqI, lpS, forL, rg1, rg2, slE, slF, slLF, oxn, oxs, inT, getT, isnW, nonW, isbW, nibW, idxF, firstI, gSb, setI, ixN, bkS, ctS, whS, eq_int, ne_int, eq_bl, ne_bl, atI_l0, atI_l1, atI_l2, atI_l3, intsOf_map, blsOf_map, intsOf_mapf, blsOf_mapf, intsOf_mapc, blsOf_mapc, lstK, lowW]
    | node b ps =>
      have hl := h.len
      have ht := h.ok.two
      rw [layW_node, low_node]
      have c1 : lcE [5, 6] (sqI (bn ixW (vr 0) (kk (.int 1)))) (ct2 5 6) yesB (clE (d_least n) (axc (vr 5) axn)) [some (.tup [.str (wayS b), .tup (ps.map partW)]), none, none, none, none, none, none, none] st = .ok (.fl (ps.map fun x => lowW x.1.low)) st :=
        lcE_tup (st := st) (ws := ps.map partW) (by simp [bodyD, pad, sqS, ifS, orB, andB, notB, tb, bn, un, addW, mulW, negW, notW, mulOk, int0, intW, vr, kk, rtS, rnS, exS, orE, andE, chn, ifE, trB, truW, lstOf, seqOf, lstK, passS, noS, setS, asgS, parS, axc, axn, flE, lsE, tupE, clE, mthE, mkE, isIns, fldW, setFS, augFS, setFd, gFd, gNm, gTp, gsC, gsN, augS, lenF, absF, intF, allF, anyF, sumF, maxF, minF, listF, listLF, tupF, isiW, tyOf, Ty.le, ixW, lmE, appF, extF, popF, flatW, veqW, inW, ninW, forS, sqI, lpS, forL, rg1, rg2, slE, slF, slLF, oxn, oxs, inT, getT, isnW, nonW, isbW, nibW, idxF, firstI, gSb, setI, ixN, bkS, ctS, whS, eq_int, ne_int, eq_bl, ne_bl, atI_l0, atI_l1, atI_l2, atI_l3, intsOf_map, blsOf_map, intsOf_mapf, blsOf_mapf, intsOf_mapc, blsOf_mapc, lstK]) (by simp; omega) (lcL_map1 ps fun x hx => ⟨_, rfl, by simp only [clE, axc, axn, vr, wipeE]; simp [bodyD, pad, sqS, ifS, orB, andB, notB, tb, bn, un, addW, mulW, negW, notW, mulOk, int0, intW, vr, kk, rtS, rnS, exS, orE, andE, chn, ifE, trB, truW, lstOf, seqOf, lstK, passS, noS, setS, asgS, parS, axc, axn, flE, lsE, tupE, clE, mthE, mkE, isIns, fldW, setFS, augFS, setFd, gFd, gNm, gTp, gsC, gsN, augS, lenF, absF, intF, allF, anyF, sumF, maxF, minF, listF, listLF, tupF, isiW, tyOf, Ty.le, ixW, lmE, appF, extF, popF, flatW, veqW, inW, ninW, forS, sqI, lpS, forL, rg1, rg2, slE, slF, slLF, oxn, oxs, inT, getT, isnW, nonW, isbW, nibW, idxF, firstI, gSb, setI, ixN, bkS, ctS, whS, eq_int, ne_int, eq_bl, ne_bl, atI_l0, atI_l1, atI_l2, atI_l3, intsOf_map, blsOf_map, intsOf_mapf, blsOf_mapf, intsOf_mapc, blsOf_mapc, lstK, least_ok (h.mem hx)]⟩)
      have c2 : ∀ (i : Nat) (j : Int) (f : Int × Int → Int) (a b c d : Option W), (∀ m, atI [W.int m.1, W.int m.2] j = some (.int (f m))) → lcE [7] (sqI (vr 1)) (ct1 7) yesB (bn ixW (vr 7) (kk (.int j))) [a, some (.fl (ps.map fun x => lowW x.1.low)), b, c, d, none, none, none] st = .ok (.fl ((ps.map fun x => f x.1.low).map W.int)) st := by
        intro i j f a b c d hf
        refine (lcE_fl (st := st) (ws := ps.map fun x => lowW x.1.low) (by simp [bodyD, pad, sqS, ifS, orB, andB, notB, tb, bn, un, addW, mulW, negW, notW, mulOk, int0, intW, vr, kk, rtS, rnS, exS, orE, andE, chn, ifE, trB, truW, lstOf, seqOf, lstK, passS, noS, setS, asgS, parS, axc, axn, flE, lsE, tupE, clE, mthE, mkE, isIns, fldW, setFS, augFS, setFd, gFd, gNm, gTp, gsC, gsN, augS, lenF, absF, intF, allF, anyF, sumF, maxF, minF, listF, listLF, tupF, isiW, tyOf, Ty.le, ixW, lmE, appF, extF, popF, flatW, veqW, inW, ninW, forS, sqI, lpS, forL, rg1, rg2, slE, slF, slLF, oxn, oxs, inT, getT, isnW, nonW, isbW, nibW, idxF, firstI, gSb, setI, ixN, bkS, ctS, whS, eq_int, ne_int, eq_bl, ne_bl, atI_l0, atI_l1, atI_l2, atI_l3, intsOf_map, blsOf_map, intsOf_mapf, blsOf_mapf, intsOf_mapc, blsOf_mapc, lstK]) (by simp; omega) (lcL_map1 (f := fun x => W.int (f x.1.low)) ps fun x hx => ⟨_, rfl, ?_⟩)).trans (by rw [List.map_map]; rfl)
        simp only [bn, vr, kk, wipeE, lowW]; simp [bodyD, pad, sqS, ifS, orB, andB, notB, tb, bn, un, addW, mulW, negW, notW, mulOk, int0, intW, vr, kk, rtS, rnS, exS, orE, andE, chn, ifE, trB, truW, lstOf, seqOf, lstK, passS, noS, setS, asgS, parS, axc, axn, flE, lsE, tupE, clE, mthE, mkE, isIns, fldW, setFS, augFS, setFd, gFd, gNm, gTp, gsC, gsN, augS, lenF, absF, intF, allF, anyF, sumF, maxF, minF, listF, listLF, tupF, isiW, tyOf, Ty.le, ixW, lmE, appF, extF, popF, flatW, veqW, inW, ninW, forS, sqI, lpS, forL, rg1, rg2, slE, slF, slLF, oxn, oxs, inT, getT, isnW, nonW, isbW, nibW, idxF, firstI, gSb, setI, ixN, bkS, ctS, whS, eq_int, ne_int, eq_bl, ne_bl, atI_l0, atI_l1, atI_l2, atI_l3, intsOf_map, blsOf_map, intsOf_mapf, blsOf_mapf, intsOf_mapc, blsOf_mapc, lstK, hf]
      have c3 := c2 0 0 (·.1)
      have c4 := c2 0 1 (·.2)
      unfold r_least
      have np : 0 < ps.length := by omega
      simp [bodyD, pad, sqS, ifS, orB, andB, notB, tb, bn, un, addW, mulW, negW, notW, mulOk, int0, intW, vr, kk, rtS, rnS, exS, orE, andE, chn, ifE, trB, truW, lstOf, seqOf, lstK, passS, noS, setS, asgS, parS, axc, axn, flE, lsE, tupE, clE, mthE, mkE, isIns, fldW, setFS, augFS, setFd, gFd, gNm, gTp, gsC, gsN, augS, lenF, absF, intF, allF, anyF, sumF, maxF, minF, listF, listLF, tupF, isiW, tyOf, Ty.le, ixW, lmE, appF, extF, popF, flatW, veqW, inW, ninW, forS, sqI, lpS, forL, rg1, rg2, slE, slF, slLF, oxn, oxs, inT, getT, isnW, nonW, isbW, nibW, idxF, firstI, gSb, setI, ixN, bkS, ctS, whS, eq_int, ne_int, eq_bl, ne_bl, atI_l0, atI_l1, atI_l2, atI_l3, intsOf_map, blsOf_map, intsOf_mapf, blsOf_mapf, intsOf_mapc, blsOf_mapc, lstK, c1, c3 _ _ _ _ fun _ => atI_l0 _ _, c4 _ _ _ _ fun _ => atI_l1 _ _ _, eq_beside, np]
      cases b <;> simp [lowW, lowOf, List.map_map, Function.comp_def]

def b_share_0 : Sx := (ifS (andB (tb (bn gtW (vr 9) (kk (.int 0)))) (tb (bn gtW (vr 7) (kk (.int 0))))) (sqS (augI (int0 fun i j => .int (i + j)) (vr 6) (vr 8) (kk (.int 1))) (augS 7 (int0 fun i j => .int (i - j)) (kk (.int 1)))) passS)
/-! share -/
def r_share : List W → Sto → R W := bodyD 12 (sqS (setS 3 (clE maxF (axc (kk (.int 0)) (axc (bn subW (bn subW (vr 0) (bn subW (clE lenF (axc (vr 2) axn)) (kk (.int 1)))) (clE sumF (axc (vr 1) axn))) axn)))) (sqS (setS 4 (lcE [10, 11] (zpI (axc (vr 2) (axc (vr 1) axn))) (ct2 10 11) yesB (clE maxF (axc (kk (.int 0)) (axc (bn subW (vr 10) (vr 11)) axn))))) (sqS (ifS (tb (bn eqW (clE sumF (axc (vr 4) axn)) (kk (.int 0)))) (setS 4 (bn mulW (flE (axc (kk (.int 1)) axn)) (clE lenF (axc (vr 2) axn)))) passS) (sqS (setS 5 (clE sumF (axc (vr 4) axn))) (sqS (setS 6 (lcQ [11, 9] (zpI (axc (vr 1) (axc (vr 4) axn))) (ct2 11 9) yesB (bn addW (vr 11) (bn fdivW (bn mulW (vr 3) (vr 9)) (vr 5))))) (sqS (setS 7 (bn subW (vr 3) (bn subW (clE sumF (axc (vr 6) axn)) (clE sumF (axc (vr 1) axn))))) (sqS (forS (enI (axc (vr 4) axn)) (gTp 2 (gsC (gNm 8) (gsC (gNm 9) gsN))) b_share_0) (rtS (vr 6)))))))))
theorem share_loop (total low old spare ex w : W) (st : Sto) (res : List Int) : ∀ (es xs done : List Int) (r : Int) (o1 o2 a b : Option W), es.length = xs.length → done ++ give es xs r = res →
    ∃ r' q1 q2, forL (gTp 2 (gsC (gNm 8) (gsC (gNm 9) gsN))) b_share_0 ((es.zipIdx done.length).map fun p => enG p.2 (.int p.1)) [some total, some low, some old, some spare, some ex, some w, some (.loc st.length), some (.int r), o1, o2, a, b] (st ++ [.lst ((done ++ xs).map W.int)]) =
      .nx [some total, some low, some old, some spare, some ex, some w, some (.loc st.length), some (.int r'), q1, q2, a, b] (st ++ [.lst (res.map W.int)])
  | [], xs, done, r, o1, o2, a, b, hl, hr => by
    unfold give at hr
    exact ⟨r, o1, o2, by rw [← hr]; rfl⟩
  | e :: es, [], done, r, o1, o2, a, b, hl, hr => by cases hl
  | e :: es, x :: xs, done, r, o1, o2, a, b, hl, hr => by
    have hb : b_share_0 [some total, some low, some old, some spare, some ex, some w, some (.loc st.length), some (.int r), some (.int (done.length : Nat)), some (.int e), a, b] (st ++ [.lst ((done ++ x :: xs).map W.int)]) =
        if 0 < e ∧ 0 < r then .nx [some total, some low, some old, some spare, some ex, some w, some (.loc st.length), some (.int (r - 1)), some (.int (done.length : Nat)), some (.int e), a, b] (st ++ [.lst ((done ++ (x + 1) :: xs).map W.int)])
        else .nx [some total, some low, some old, some spare, some ex, some w, some (.loc st.length), some (.int r), some (.int (done.length : Nat)), some (.int e), a, b] (st ++ [.lst ((done ++ x :: xs).map W.int)]) := by
      unfold b_share_0
      have hi : ixN (done.length + (xs.length + 1)) (done.length : Int) = some done.length := ixN_lt (by omega)
      have hset : ∀ y : Int, (done.map W.int ++ W.int x :: xs.map W.int).set done.length (.int y) = done.map W.int ++ W.int y :: xs.map W.int := fun y => set_app W.int done _ _ _
      by_cases h1 : 0 < e <;> by_cases h2 : 0 < r <;> simp [andB, tb, bn, vr, kk, int0, h1, h2, ifS, augI, augS, ixP, sqS, passS, atI_app, setI, hi, hset]
    simp only [List.zipIdx_cons, List.map_cons]
    unfold forL
    simp only [enG, gTp, gsC, gsN, gNm, List.length_cons, List.length_nil, Nat.reduceAdd, if_true, R.bind_ok, R.toS_ok, List.set_cons_succ, List.set_cons_zero, lpS, List.map_append, List.map_cons] at hb ⊢
    rw [hb]
    by_cases h : 0 < e ∧ 0 < r
    · obtain ⟨r', p1, p2, q⟩ := share_loop total low old spare ex w st res es xs (done ++ [x + 1]) (r - 1) (some (.int (done.length : Nat))) (some (.int e)) a b (by simpa using hl) (by unfold give at hr; rw [if_pos h] at hr; rw [← hr]; simp)
      refine ⟨r', p1, p2, ?_⟩
      rw [if_pos h, SR.lp_nx]
      simpa [enG] using q
    · obtain ⟨r', p1, p2, q⟩ := share_loop total low old spare ex w st res es xs (done ++ [x]) r (some (.int (done.length : Nat))) (some (.int e)) a b (by simpa using hl) (by unfold give at hr; rw [if_neg h] at hr; rw [← hr]; simp)
      refine ⟨r', p1, p2, ?_⟩
      rw [if_neg h, SR.lp_nx]
      simpa [enG] using q
def d_share : List W → Sto → R W := pureF (fun a : Int × List Int × List Int => [.int a.1, intsW a.2.1, intsW a.2.2]) (fun a => Shr a.2.1 a.2.2) (fun a => intsW (share a.1 a.2.1 a.2.2))
theorem share_enc {a b : Int × List Int × List Int} (e : [W.int a.1, intsW a.2.1, intsW a.2.2] = [W.int b.1, intsW b.2.1, intsW b.2.2]) : a = b := by
  obtain ⟨a1, a2, a3⟩ := a
  obtain ⟨b1, b2, b3⟩ := b
  simp only [List.cons.injEq, W.int.injEq] at e
  rw [e.1, intsW_inj e.2.1, intsW_inj e.2.2.1]
theorem share_ok {t : Int} {low old : List Int} {st : Sto} (h : Shr low old) : d_share [.int t, intsW low, intsW old] st = .ok (intsW (share t low old)) st :=
  pureF_ok (fun a b e => share_enc e) (a := (t, low, old)) h
theorem gz_share : Gz 3 r_share d_share := by
  refine gz_pureF fun ⟨t, low, old⟩ st h => ?_
  have h : Shr low old := h
  refine ⟨.loc st.length, [.lst ((share t low old).map W.int)], ?_, Fzs.locC (Nat.le_refl _) (by simp) (Cl.map .int)⟩
  have hl := h.ln
  have hl2 := h.l2
  have hl1 := h.l1
  have he := h.elen
  have c1 : ∀ a b c : Option W, lcE [10, 11] (zpI (axc (vr 2) (axc (vr 1) axn))) (ct2 10 11) yesB (clE maxF (axc (kk (.int 0)) (axc (bn subW (vr 10) (vr 11)) axn))) [a, some (intsW low), some (intsW old), b, c, none, none, none, none, none, none, none] st = .ok (intsW (extras0 low old)) st := by
    intro a b c
    refine (lcE_src (ws := (old.zip low).map fun p => .tup [.int p.1, .int p.2]) (st := st) ?_ (by simp; omega) (lcL_map1 (f := fun p => W.int (max 0 (p.1 - p.2))) (old.zip low) fun x hx => ⟨_, rfl, ?_⟩)).trans ?_
    · exact (zpI_fl (st := st) (xs := old.map W.int) (ys := low.map W.int) (by simp [bodyD, pad, sqS, ifS, orB, andB, notB, tb, bn, un, addW, mulW, negW, notW, mulOk, int0, intW, vr, kk, rtS, rnS, exS, orE, andE, chn, ifE, trB, truW, lstOf, seqOf, lstK, passS, noS, setS, asgS, parS, axc, axn, flE, lsE, tupE, clE, mthE, mkE, isIns, fldW, setFS, augFS, setFd, gFd, gNm, gTp, gsC, gsN, augS, lenF, absF, intF, allF, anyF, sumF, maxF, minF, listF, listLF, tupF, isiW, tyOf, Ty.le, ixW, lmE, appF, extF, popF, flatW, veqW, inW, ninW, forS, sqI, lpS, forL, rg1, rg2, slE, slF, slLF, oxn, oxs, inT, getT, isnW, nonW, isbW, nibW, idxF, firstI, gSb, setI, ixN, bkS, ctS, whS, eq_int, ne_int, eq_bl, ne_bl, atI_l0, atI_l1, atI_l2, atI_l3, intsOf_map, blsOf_map, intsOf_mapf, blsOf_mapf, intsOf_mapc, blsOf_mapc, lstK, intsW])).trans (by rw [zipW_map])
    · simp only [wipeE]; simp [bodyD, pad, sqS, ifS, orB, andB, notB, tb, bn, un, addW, mulW, negW, notW, mulOk, int0, intW, vr, kk, rtS, rnS, exS, orE, andE, chn, ifE, trB, truW, lstOf, seqOf, lstK, passS, noS, setS, asgS, parS, axc, axn, flE, lsE, tupE, clE, mthE, mkE, isIns, fldW, setFS, augFS, setFd, gFd, gNm, gTp, gsC, gsN, augS, lenF, absF, intF, allF, anyF, sumF, maxF, minF, listF, listLF, tupF, isiW, tyOf, Ty.le, ixW, lmE, appF, extF, popF, flatW, veqW, inW, ninW, forS, sqI, lpS, forL, rg1, rg2, slE, slF, slLF, oxn, oxs, inT, getT, isnW, nonW, isbW, nibW, idxF, firstI, gSb, setI, ixN, bkS, ctS, whS, eq_int, ne_int, eq_bl, ne_bl, atI_l0, atI_l1, atI_l2, atI_l3, intsOf_map, blsOf_map, intsOf_mapf, blsOf_mapf, intsOf_mapc, blsOf_mapc, lstK]
    · simp [intsW, extras0]
  have c2 : ∀ a b : Option W, lcQ [11, 9] (zpI (axc (vr 1) (axc (vr 4) axn))) (ct2 11 9) yesB (bn addW (vr 11) (bn fdivW (bn mulW (vr 3) (vr 9)) (vr 5))) [a, some (intsW low), b, some (.int (spareOf t low)), some (intsW (extrasOf low old)), some (.int (extrasOf low old).sum), none, none, none, none, none, none] st =
      .ok (.loc st.length) (st ++ [.lst ((newsOf (spareOf t low) (extrasOf low old).sum low (extrasOf low old)).map W.int)]) := by
    intro a b
    refine (lcQ_src (ws := (low.zip (extrasOf low old)).map fun p => .tup [.int p.1, .int p.2]) (st := st) ?_ (by simp; omega) (lcL_map1 (f := fun p => W.int (p.1 + spareOf t low * p.2 / (extrasOf low old).sum)) (low.zip (extrasOf low old)) fun x hx => ⟨_, rfl, ?_⟩)).trans ?_
    · exact (zpI_fl (st := st) (xs := low.map W.int) (ys := (extrasOf low old).map W.int) (by simp [bodyD, pad, sqS, ifS, orB, andB, notB, tb, bn, un, addW, mulW, negW, notW, mulOk, int0, intW, vr, kk, rtS, rnS, exS, orE, andE, chn, ifE, trB, truW, lstOf, seqOf, lstK, passS, noS, setS, asgS, parS, axc, axn, flE, lsE, tupE, clE, mthE, mkE, isIns, fldW, setFS, augFS, setFd, gFd, gNm, gTp, gsC, gsN, augS, lenF, absF, intF, allF, anyF, sumF, maxF, minF, listF, listLF, tupF, isiW, tyOf, Ty.le, ixW, lmE, appF, extF, popF, flatW, veqW, inW, ninW, forS, sqI, lpS, forL, rg1, rg2, slE, slF, slLF, oxn, oxs, inT, getT, isnW, nonW, isbW, nibW, idxF, firstI, gSb, setI, ixN, bkS, ctS, whS, eq_int, ne_int, eq_bl, ne_bl, atI_l0, atI_l1, atI_l2, atI_l3, intsOf_map, blsOf_map, intsOf_mapf, blsOf_mapf, intsOf_mapc, blsOf_mapc, lstK, intsW])).trans (by rw [zipW_map])
    · have := h.emem x.2 (List.of_mem_zip hx).2
      have := h.epos
      have := h.esum
      simp only [wipeE]; simp [bodyD, pad, sqS, ifS, orB, andB, notB, tb, bn, un, addW, mulW, negW, notW, mulOk, int0, intW, vr, kk, rtS, rnS, exS, orE, andE, chn, ifE, trB, truW, lstOf, seqOf, lstK, passS, noS, setS, asgS, parS, axc, axn, flE, lsE, tupE, clE, mthE, mkE, isIns, fldW, setFS, augFS, setFd, gFd, gNm, gTp, gsC, gsN, augS, lenF, absF, intF, allF, anyF, sumF, maxF, minF, listF, listLF, tupF, isiW, tyOf, Ty.le, ixW, lmE, appF, extF, popF, flatW, veqW, inW, ninW, forS, sqI, lpS, forL, rg1, rg2, slE, slF, slLF, oxn, oxs, inT, getT, isnW, nonW, isbW, nibW, idxF, firstI, gSb, setI, ixN, bkS, ctS, whS, eq_int, ne_int, eq_bl, ne_bl, atI_l0, atI_l1, atI_l2, atI_l3, intsOf_map, blsOf_map, intsOf_mapf, blsOf_mapf, intsOf_mapc, blsOf_mapc, lstK]
      simp [*]
      omega
    · simp [newsOf]
  obtain ⟨r', o1, o2, lp⟩ := share_loop (.int t) (intsW low) (intsW old) (.int (spareOf t low)) (intsW (extrasOf low old)) (.int (extrasOf low old).sum) st (share t low old) (extrasOf low old) (newsOf (spareOf t low) (extrasOf low old).sum low (extrasOf low old)) []
    (spareOf t low - ((newsOf (spareOf t low) (extrasOf low old).sum low (extrasOf low old)).sum - low.sum)) none none none none (by rw [news_len]; omega) rfl
  simp only [List.nil_append, List.length_nil] at lp
  have hsp : max 0 (t - ((old.length : Int) - 1) - low.sum) = spareOf t low := by rw [← hl]; rfl
  have hx : (if (extras0 low old).sum = 0 then SR.nx [some (.int t), some (intsW low), some (intsW old), some (.int (spareOf t low)), some (intsW (List.replicate old.length 1)), none, none, none, none, none, none, none] st else SR.nx [some (.int t), some (intsW low), some (intsW old), some (.int (spareOf t low)), some (intsW (extras0 low old)), none, none, none, none, none, none, none] st) =
      SR.nx [some (.int t), some (intsW low), some (intsW old), some (.int (spareOf t low)), some (intsW (extrasOf low old)), none, none, none, none, none, none, none] st := by
    unfold extrasOf
    split <;> rfl
  have l1 : ∀ ns s, lstOf s (intsW ns) = some (ns.map W.int) := fun ns s => rfl
  have l2 : ∀ ns s, lstK s (intsW ns) = some (ns.map W.int) := fun ns s => rfl
  have s1 : ∀ ns s, sumF [intsW ns] s = .ok (.int ns.sum) s := fun ns s => by simp [sumF, l2, intsOf_map]
  have s2 : ∀ ns s, lenF [intsW ns] s = .ok (.int (ns.length : Nat)) s := fun ns s => by simp [lenF, intsW, seqOf, lstOf]
  have s3 : ∀ (ns : List Int), sumF [.loc st.length] (st ++ [.lst (ns.map W.int)]) = .ok (.int ns.sum) (st ++ [.lst (ns.map W.int)]) := fun ns => by simp [sumF, lstK, lstOf, intsOf_map]
  have m1 : mulW (.fl [.int 1]) (.int (old.length : Nat)) st = .ok (intsW (List.replicate old.length 1)) st := by
    simp [mulW, lstOf, intsW, rep_flat]; omega
  have e1 : enI (axc (vr 4) axn) [some (.int t), some (intsW low), some (intsW old), some (.int (spareOf t low)), some (intsW (extrasOf low old)), some (.int (extrasOf low old).sum), some (.loc st.length), some (.int (spareOf t low - ((newsOf (spareOf t low) (extrasOf low old).sum low (extrasOf low old)).sum - low.sum))), none, none, none, none] (st ++ [.lst ((newsOf (spareOf t low) (extrasOf low old).sum low (extrasOf low old)).map W.int)]) =
      .ok (.st ((extrasOf low old).zipIdx.map fun p => enG p.2 (.int p.1))) (st ++ [.lst ((newsOf (spareOf t low) (extrasOf low old).sum low (extrasOf low old)).map W.int)]) := by
    simp [enI, axc, axn, vr, intsW, srcL, List.zipIdx_map, Function.comp_def]
  unfold r_share
  simp only [bodyD, pad, sqS, setS, ifS, clE, axc, axn, vr, kk, bn, tb, List.map, List.length, List.replicate, List.cons_append, List.nil_append, Nat.reduceAdd, Nat.reduceSub, List.getElem?_cons_succ, List.getElem?_cons_zero, R.toS_ok, R.bind_ok, List.set_cons_zero, List.set_cons_succ, SR.go_nx, s1, s2, maxF, int0, hsp, c1, eq_int, W.cb_bl, beq_iff_eq, flE, m1, passS, hx]
  rw [c2]
  simp only [R.toS_ok, SR.go_nx, setS, bn, clE, axc, axn, vr, R.bind_ok, List.getElem?_cons_succ, List.getElem?_cons_zero, List.set_cons_zero, List.set_cons_succ, s1, s3, int0, sqS, forS, e1, lp, rtS, SR.go_rt, fin_rt]

def d_fitted (n : Nat) : List W → Sto → R W := pureF (fun a : Lay × Int × Int => [layW a.1, .int a.2.1, .int a.2.2]) (fun a => Good n a.1 ∧ n ≤ 20) (fun a => layW (a.1.fit a.2.1 a.2.2))

def b_fitted_0 (slf : List W → Sto → R W) : Sx := (ifS (tb (bn eqW (vr 6) (kk (.int 0)))) (exS (lmE appF (vr 9) (axc (tupE (axc (clE slf (axc (vr 10) (axc (vr 12) (axc (vr 2) axn)))) (axc (vr 12) axn))) axn))) (exS (lmE appF (vr 9) (axc (tupE (axc (clE slf (axc (vr 10) (axc (vr 1) (axc (vr 12) axn)))) (axc (vr 12) axn))) axn))))
/-! fitted -/
def r_fitted : Nat → List W → Sto → R W
  | 0 => bodyD 13 noS
  | n + 1 => bodyD 13 (sqS (ifS (trB (un (isiW .int) (vr 0))) (rtS (vr 0)) passS) (sqS (setS 3 (clE (d_least 20) (axc (vr 0) axn))) (sqS (setS 1 (clE maxF (axc (vr 1) (axc (bn ixW (vr 3) (kk (.int 0))) axn)))) (sqS (setS 2 (clE maxF (axc (vr 2) (axc (bn ixW (vr 3) (kk (.int 1))) axn)))) (sqS (asgS (vr 0) (gTp 2 (gsC (gNm 4) (gsC (gNm 5) gsN)))) (sqS (setS 6 (clE d_axis_of (axc (vr 4) axn))) (sqS (setS 7 (lcE [10, 11] (sqI (vr 5)) (ct2 10 11) yesB (bn ixW (clE (d_least 20) (axc (vr 10) axn)) (vr 6)))) (sqS (setS 8 (clE d_share (axc (ifE (tb (bn eqW (vr 6) (kk (.int 0)))) (vr 1) (vr 2)) (axc (vr 7) (axc (lcE [11, 12] (sqI (vr 5)) (ct2 11 12) yesB (vr 12)) axn))))) (sqS (setS 9 (lsE axn)) (sqS (forS (zmI (axc (vr 5) (axc (vr 8) axn))) (gTp 2 (gsC (gTp 2 (gsC (gNm 10) (gsC (gNm 11) gsN))) (gsC (gNm 12) gsN))) (b_fitted_0 (d_fitted n))) (rtS (tupE (axc (vr 4) (axc (clE tupF (axc (vr 9) axn)) axn))))))))))))))
theorem fitted_ok {n : Nat} {L : Lay} {w h : Int} {st : Sto} (g : Good n L) (hn : n ≤ 20) : d_fitted n [layW L, .int w, .int h] st = .ok (layW (L.fit w h)) st :=
  pureF_ok (fun a b e => fit_enc e) (a := (L, w, h)) ⟨g, hn⟩
theorem gz_fitted (n : Nat) : Gz 3 (r_fitted n) (d_fitted n) := by
  refine gz_pureF fun ⟨L, w, h⟩ st ⟨g, hn⟩ => ?_
  have g : Good n L := g
  show ∃ w0 s2, r_fitted n [layW L, .int w, .int h] st = .ok w0 (st ++ s2) ∧ Fzs st.length (st ++ s2) w0 (layW (L.fit w h))
  cases n with
  | zero => exact g.zero.elim
  | succ n =>
    cases L with
    | pane p =>
      have ct : isiW .int (.int p) st = .ok (.bl true) st := rfl
      refine ⟨.int p, [], ?_, by rw [fit_pane, layW_pane]; exact (Cl.int p).fzs⟩
      rw [layW_pane, List.append_nil]; unfold r_fitted; simp only [bodyD, pad, sqS, ifS, orB, andB, notB, tb, bn, un, vr, kk, rtS, rnS, exS, orE, andE, chn, ifE, trB, passS, noS, setS, asgS, parS, axc, axn, flE, lsE, tupE, clE, mthE, mkE, lmE, forS, sqI, rg1, rg2, gSb, gFd, setFS, augFS, gNm, gTp, gsC, gsN, augS, augI, bkS, ctS, whS, slE, oxn, oxs, lpS, List.map_cons, List.map_nil, List.length_cons, List.length_nil, List.replicate, List.cons_append, List.nil_append, Nat.reduceAdd, Nat.reduceSub, List.getElem?_cons_succ, List.getElem?_cons_zero, List.set_cons_zero, List.set_cons_succ, R.toS_ok, R.bind_ok, R.toS_ite, R.bind_ite, SR.go_nx, SR.go_rt, SR.go_bk, SR.go_ct, SR.go_ite, SR.lp_nx, SR.lp_rt, SR.lp_bk, SR.lp_ct, SR.lp_ite, fin_nx, fin_rt, fin_ite, W.cb_bl, if_true, if_false, Bool.false_eq_true, eq_int, ne_int, eq_bl, ne_bl, mx2, mn2, int0, notW, truW, fdiv_ok, mod_ok, mul_okl, add_int, neg_int, int_bl, int_int, listLF_fl, listF_fl, listF_tup, listLF_tup, Int.reduceLT, Int.reduceLE, Int.reduceNeg, decide_true, decide_false, nxS, nxA, nxE, R.nox_ok, R.nox_ite, SR.nox_nx, SR.nox_rt, SR.nox_ite, R.bind_ex, R.toS_ex, SR.go_ex, fin_ex, ct]
    | node b ps =>
      have hl := g.len
      have sh := shr_of g
      have hsl := sizesOf_len b ps w h
      rw [fit_node]
      have glow := least_ok (st := st) (n := 20) (g.mono hn)
      rw [layW_node] at glow ⊢
      generalize hm : (Lay.node b ps).low = m at *
      have hss : sizesOf b ps w h = share (if b then max h m.2 else max w m.1) (ps.map fun x => ax b x.1.low) (ps.map (·.2)) := by unfold sizesOf; rw [hm]
      rw [hss] at hsl ⊢
      have c3 := share_ok (t := if b then max h m.2 else max w m.1) (st := st) sh
      generalize share (if b then max h m.2 else max w m.1) (ps.map fun x => ax b x.1.low) (ps.map (·.2)) = ss at *
      generalize hw : max w m.1 = w1 at *
      generalize hh : max h m.2 = h1 at *
      have ct : isiW .int (W.tup [.str (wayS b), .tup (ps.map partW)]) st = .ok (.bl false) st := rfl
      have l0 : ixW (lowW m) (.int 0) st = .ok (.int m.1) st := rfl
      have l1 : ixW (lowW m) (.int 1) st = .ok (.int m.2) st := rfl
      have ao := axis_of_ok b st
      have c1 : ∀ a b1 c d e : Option W, lcE [10, 11] (sqI (vr 5)) (ct2 10 11) yesB (bn ixW (clE (d_least 20) (axc (vr 10) axn)) (vr 6)) [a, b1, c, d, e, some (.tup (ps.map partW)), some (.int (if b then 1 else 0)), none, none, none, none, none, none] st = .ok (intsW (ps.map fun x => ax b x.1.low)) st := by
        intros
        refine (lcE_tup (st := st) (ws := ps.map partW) (by simp only [bodyD, pad, sqS, ifS, orB, andB, notB, tb, bn, un, vr, kk, rtS, rnS, exS, orE, andE, chn, ifE, trB, passS, noS, setS, asgS, parS, axc, axn, flE, lsE, tupE, clE, mthE, mkE, lmE, forS, sqI, rg1, rg2, gSb, gFd, setFS, augFS, gNm, gTp, gsC, gsN, augS, augI, bkS, ctS, whS, slE, oxn, oxs, lpS, List.map_cons, List.map_nil, List.length_cons, List.length_nil, List.replicate, List.cons_append, List.nil_append, Nat.reduceAdd, Nat.reduceSub, List.getElem?_cons_succ, List.getElem?_cons_zero, List.set_cons_zero, List.set_cons_succ, R.toS_ok, R.bind_ok, R.toS_ite, R.bind_ite, SR.go_nx, SR.go_rt, SR.go_bk, SR.go_ct, SR.go_ite, SR.lp_nx, SR.lp_rt, SR.lp_bk, SR.lp_ct, SR.lp_ite, fin_nx, fin_rt, fin_ite, W.cb_bl, if_true, if_false, Bool.false_eq_true, eq_int, ne_int, eq_bl, ne_bl, mx2, mn2, int0, notW, truW, fdiv_ok, mod_ok, mul_okl, add_int, neg_int, int_bl, int_int, listLF_fl, listF_fl, listF_tup, listLF_tup, Int.reduceLT, Int.reduceLE, Int.reduceNeg, decide_true, decide_false, nxS, nxA, nxE, R.nox_ok, R.nox_ite, SR.nox_nx, SR.nox_rt, SR.nox_ite, R.bind_ex, R.toS_ex, SR.go_ex, fin_ex]) (by simp; omega) (lcL_map1 (f := fun x => W.int (ax b x.1.low)) ps fun x hx => ⟨_, rfl, ?_⟩)).trans (by rw [intsW, List.map_map]; rfl)
        have q := least_ok (st := st) (n := 20) ((g.mem hx).mono (by omega))
        have q2 : ixW (lowW x.1.low) (.int (if b then 1 else 0)) st = .ok (.int (ax b x.1.low)) st := by cases b <;> rfl
        simp only [wipeE]
        simp only [bodyD, pad, sqS, ifS, orB, andB, notB, tb, bn, un, vr, kk, rtS, rnS, exS, orE, andE, chn, ifE, trB, passS, noS, setS, asgS, parS, axc, axn, flE, lsE, tupE, clE, mthE, mkE, lmE, forS, sqI, rg1, rg2, gSb, gFd, setFS, augFS, gNm, gTp, gsC, gsN, augS, augI, bkS, ctS, whS, slE, oxn, oxs, lpS, List.map_cons, List.map_nil, List.length_cons, List.length_nil, List.replicate, List.cons_append, List.nil_append, Nat.reduceAdd, Nat.reduceSub, List.getElem?_cons_succ, List.getElem?_cons_zero, List.set_cons_zero, List.set_cons_succ, R.toS_ok, R.bind_ok, R.toS_ite, R.bind_ite, SR.go_nx, SR.go_rt, SR.go_bk, SR.go_ct, SR.go_ite, SR.lp_nx, SR.lp_rt, SR.lp_bk, SR.lp_ct, SR.lp_ite, fin_nx, fin_rt, fin_ite, W.cb_bl, if_true, if_false, Bool.false_eq_true, eq_int, ne_int, eq_bl, ne_bl, mx2, mn2, int0, notW, truW, fdiv_ok, mod_ok, mul_okl, add_int, neg_int, int_bl, int_int, listLF_fl, listF_fl, listF_tup, listLF_tup, Int.reduceLT, Int.reduceLE, Int.reduceNeg, decide_true, decide_false, nxS, nxA, nxE, R.nox_ok, R.nox_ite, SR.nox_nx, SR.nox_rt, SR.nox_ite, R.bind_ex, R.toS_ex, SR.go_ex, fin_ex, q, q2]
      have c2 : ∀ a b1 c d e f g : Option W, lcE [11, 12] (sqI (vr 5)) (ct2 11 12) yesB (vr 12) [a, b1, c, d, e, some (.tup (ps.map partW)), f, g, none, none, none, none, none] st = .ok (intsW (ps.map (·.2))) st := by
        intros
        refine (lcE_tup (st := st) (ws := ps.map partW) (by simp only [bodyD, pad, sqS, ifS, orB, andB, notB, tb, bn, un, vr, kk, rtS, rnS, exS, orE, andE, chn, ifE, trB, passS, noS, setS, asgS, parS, axc, axn, flE, lsE, tupE, clE, mthE, mkE, lmE, forS, sqI, rg1, rg2, gSb, gFd, setFS, augFS, gNm, gTp, gsC, gsN, augS, augI, bkS, ctS, whS, slE, oxn, oxs, lpS, List.map_cons, List.map_nil, List.length_cons, List.length_nil, List.replicate, List.cons_append, List.nil_append, Nat.reduceAdd, Nat.reduceSub, List.getElem?_cons_succ, List.getElem?_cons_zero, List.set_cons_zero, List.set_cons_succ, R.toS_ok, R.bind_ok, R.toS_ite, R.bind_ite, SR.go_nx, SR.go_rt, SR.go_bk, SR.go_ct, SR.go_ite, SR.lp_nx, SR.lp_rt, SR.lp_bk, SR.lp_ct, SR.lp_ite, fin_nx, fin_rt, fin_ite, W.cb_bl, if_true, if_false, Bool.false_eq_true, eq_int, ne_int, eq_bl, ne_bl, mx2, mn2, int0, notW, truW, fdiv_ok, mod_ok, mul_okl, add_int, neg_int, int_bl, int_int, listLF_fl, listF_fl, listF_tup, listLF_tup, Int.reduceLT, Int.reduceLE, Int.reduceNeg, decide_true, decide_false, nxS, nxA, nxE, R.nox_ok, R.nox_ite, SR.nox_nx, SR.nox_rt, SR.nox_ite, R.bind_ex, R.toS_ex, SR.go_ex, fin_ex]) (by simp; omega) (lcL_map1 (f := fun x => W.int x.2) ps fun x hx => ⟨_, rfl, ?_⟩)).trans (by rw [intsW, List.map_map]; rfl)
        simp only [wipeE]; rfl
      have key : ∀ (ys : List (Part × Int)) (acc : List Part) (s : Sto) (x : W), (∀ y ∈ ys, Good n y.1.1) → acc.length + ys.length ≤ 1000 → Own st s x (acc.map partW) → ∃ s', Own st s' x ((acc ++ ys.map fun y => (y.1.1.fit (if b then w1 else y.2) (if b then y.2 else h1), y.2)).map partW) ∧ ∀ (X lw : W) (o10 o11 o12 : Option W), ∃ e10 e11 e12,
          forL (gTp 2 (gsC (gTp 2 (gsC (gNm 10) (gsC (gNm 11) gsN))) (gsC (gNm 12) gsN))) (b_fitted_0 (d_fitted n)) (ys.map fun y => .tup [partW y.1, .int y.2])
            [some X, some (.int w1), some (.int h1), some lw, some (.str (wayS b)), some (.tup (ps.map partW)), some (.int (if b then 1 else 0)), some (intsW (ps.map fun x => ax b x.1.low)), some (intsW ss), some x, o10, o11, o12] s =
          .nx [some X, some (.int w1), some (.int h1), some lw, some (.str (wayS b)), some (.tup (ps.map partW)), some (.int (if b then 1 else 0)), some (intsW (ps.map fun x => ax b x.1.low)), some (intsW ss), some x, e10, e11, e12] s' := by
        intro ys
        induction ys with
        | nil => intro acc s x _ _ O; exact ⟨s, by simpa using O, fun X lw o10 o11 o12 => ⟨o10, o11, o12, rfl⟩⟩
        | cons y ys ih =>
          intro acc s x hg hl O
          rw [List.length_cons] at hl
          have rc := fitted_ok (w := if b then w1 else y.2) (h := if b then y.2 else h1) (st := s) (hg y (by simp)) (by omega)
          obtain ⟨s', ap, O'⟩ := O.app (by simp; omega) (partW (y.1.1.fit (if b then w1 else y.2) (if b then y.2 else h1), y.2))
          rw [← List.map_singleton, ← List.map_append] at O'
          obtain ⟨s2, O2, ih⟩ := ih _ s' x (fun z hz => hg z (by simp [hz])) (by simp; omega) O'
          refine ⟨s2, by rw [List.map_cons, List.append_cons]; exact O2, fun X lw o10 o11 o12 => ?_⟩
          obtain ⟨e10, e11, e12, ih⟩ := ih X lw (some (layW y.1.1)) (some (.int y.1.2)) (some (.int y.2))
          refine ⟨e10, e11, e12, ?_⟩
          have lk := O.lk
          have hb : b_fitted_0 (d_fitted n) [some X, some (.int w1), some (.int h1), some lw, some (.str (wayS b)), some (.tup (ps.map partW)), some (.int (if b then 1 else 0)), some (intsW (ps.map fun x => ax b x.1.low)), some (intsW ss), some x, some (layW y.1.1), some (.int y.1.2), some (.int y.2)] s =
              .nx [some X, some (.int w1), some (.int h1), some lw, some (.str (wayS b)), some (.tup (ps.map partW)), some (.int (if b then 1 else 0)), some (intsW (ps.map fun x => ax b x.1.low)), some (intsW ss), some x, some (layW y.1.1), some (.int y.1.2), some (.int y.2)] s' := by
            unfold b_fitted_0
            simp only [partW] at ap
            cases b
            · simp only [Bool.false_eq_true, if_false] at rc ap ⊢
              simp only [bodyD, pad, sqS, ifS, orB, andB, notB, tb, bn, un, vr, kk, rtS, rnS, exS, orE, andE, chn, ifE, trB, passS, noS, setS, asgS, parS, axc, axn, flE, lsE, tupE, clE, mthE, mkE, lmE, forS, sqI, rg1, rg2, gSb, gFd, setFS, augFS, gNm, gTp, gsC, gsN, augS, augI, bkS, ctS, whS, slE, oxn, oxs, lpS, List.map_cons, List.map_nil, List.length_cons, List.length_nil, List.replicate, List.cons_append, List.nil_append, Nat.reduceAdd, Nat.reduceSub, List.getElem?_cons_succ, List.getElem?_cons_zero, List.set_cons_zero, List.set_cons_succ, R.toS_ok, R.bind_ok, R.toS_ite, R.bind_ite, SR.go_nx, SR.go_rt, SR.go_bk, SR.go_ct, SR.go_ite, SR.lp_nx, SR.lp_rt, SR.lp_bk, SR.lp_ct, SR.lp_ite, fin_nx, fin_rt, fin_ite, W.cb_bl, if_true, if_false, Bool.false_eq_true, eq_int, ne_int, eq_bl, ne_bl, mx2, mn2, int0, notW, truW, fdiv_ok, mod_ok, mul_okl, add_int, neg_int, int_bl, int_int, listLF_fl, listF_fl, listF_tup, listLF_tup, Int.reduceLT, Int.reduceLE, Int.reduceNeg, decide_true, decide_false, nxS, nxA, nxE, R.nox_ok, R.nox_ite, SR.nox_nx, SR.nox_rt, SR.nox_ite, R.bind_ex, R.toS_ex, SR.go_ex, fin_ex, lk, rc, ap, beq_self_eq_true]
            · simp only [if_true] at rc ap ⊢
              simp only [bodyD, pad, sqS, ifS, orB, andB, notB, tb, bn, un, vr, kk, rtS, rnS, exS, orE, andE, chn, ifE, trB, passS, noS, setS, asgS, parS, axc, axn, flE, lsE, tupE, clE, mthE, mkE, lmE, forS, sqI, rg1, rg2, gSb, gFd, setFS, augFS, gNm, gTp, gsC, gsN, augS, augI, bkS, ctS, whS, slE, oxn, oxs, lpS, List.map_cons, List.map_nil, List.length_cons, List.length_nil, List.replicate, List.cons_append, List.nil_append, Nat.reduceAdd, Nat.reduceSub, List.getElem?_cons_succ, List.getElem?_cons_zero, List.set_cons_zero, List.set_cons_succ, R.toS_ok, R.bind_ok, R.toS_ite, R.bind_ite, SR.go_nx, SR.go_rt, SR.go_bk, SR.go_ct, SR.go_ite, SR.lp_nx, SR.lp_rt, SR.lp_bk, SR.lp_ct, SR.lp_ite, fin_nx, fin_rt, fin_ite, W.cb_bl, if_true, if_false, Bool.false_eq_true, eq_int, ne_int, eq_bl, ne_bl, mx2, mn2, int0, notW, truW, fdiv_ok, mod_ok, mul_okl, add_int, neg_int, int_bl, int_int, listLF_fl, listF_fl, listF_tup, listLF_tup, Int.reduceLT, Int.reduceLE, Int.reduceNeg, decide_true, decide_false, nxS, nxA, nxE, R.nox_ok, R.nox_ite, SR.nox_nx, SR.nox_rt, SR.nox_ite, R.bind_ex, R.toS_ex, SR.go_ex, fin_ex, lk, rc, ap, show ((1 : Int) == 0) = false from rfl]
          rw [List.map_cons]
          unfold forL
          simp only [bodyD, pad, sqS, ifS, orB, andB, notB, tb, bn, un, vr, kk, rtS, rnS, exS, orE, andE, chn, ifE, trB, passS, noS, setS, asgS, parS, axc, axn, flE, lsE, tupE, clE, mthE, mkE, lmE, forS, sqI, rg1, rg2, gSb, gFd, setFS, augFS, gNm, gTp, gsC, gsN, augS, augI, bkS, ctS, whS, slE, oxn, oxs, lpS, List.map_cons, List.map_nil, List.length_cons, List.length_nil, List.replicate, List.cons_append, List.nil_append, Nat.reduceAdd, Nat.reduceSub, List.getElem?_cons_succ, List.getElem?_cons_zero, List.set_cons_zero, List.set_cons_succ, R.toS_ok, R.bind_ok, R.toS_ite, R.bind_ite, SR.go_nx, SR.go_rt, SR.go_bk, SR.go_ct, SR.go_ite, SR.lp_nx, SR.lp_rt, SR.lp_bk, SR.lp_ct, SR.lp_ite, fin_nx, fin_rt, fin_ite, W.cb_bl, if_true, if_false, Bool.false_eq_true, eq_int, ne_int, eq_bl, ne_bl, mx2, mn2, int0, notW, truW, fdiv_ok, mod_ok, mul_okl, add_int, neg_int, int_bl, int_int, listLF_fl, listF_fl, listF_tup, listLF_tup, Int.reduceLT, Int.reduceLE, Int.reduceNeg, decide_true, decide_false, nxS, nxA, nxE, R.nox_ok, R.nox_ite, SR.nox_nx, SR.nox_rt, SR.nox_ite, R.bind_ex, R.toS_ex, SR.go_ex, fin_ex, partW]
          rw [hb]
          simp only [bodyD, pad, sqS, ifS, orB, andB, notB, tb, bn, un, vr, kk, rtS, rnS, exS, orE, andE, chn, ifE, trB, passS, noS, setS, asgS, parS, axc, axn, flE, lsE, tupE, clE, mthE, mkE, lmE, forS, sqI, rg1, rg2, gSb, gFd, setFS, augFS, gNm, gTp, gsC, gsN, augS, augI, bkS, ctS, whS, slE, oxn, oxs, lpS, List.map_cons, List.map_nil, List.length_cons, List.length_nil, List.replicate, List.cons_append, List.nil_append, Nat.reduceAdd, Nat.reduceSub, List.getElem?_cons_succ, List.getElem?_cons_zero, List.set_cons_zero, List.set_cons_succ, R.toS_ok, R.bind_ok, R.toS_ite, R.bind_ite, SR.go_nx, SR.go_rt, SR.go_bk, SR.go_ct, SR.go_ite, SR.lp_nx, SR.lp_rt, SR.lp_bk, SR.lp_ct, SR.lp_ite, fin_nx, fin_rt, fin_ite, W.cb_bl, if_true, if_false, Bool.false_eq_true, eq_int, ne_int, eq_bl, ne_bl, mx2, mn2, int0, notW, truW, fdiv_ok, mod_ok, mul_okl, add_int, neg_int, int_bl, int_int, listLF_fl, listF_fl, listF_tup, listLF_tup, Int.reduceLT, Int.reduceLE, Int.reduceNeg, decide_true, decide_false, nxS, nxA, nxE, R.nox_ok, R.nox_ite, SR.nox_nx, SR.nox_rt, SR.nox_ite, R.bind_ex, R.toS_ex, SR.go_ex, fin_ex]
          exact ih
      obtain ⟨s, O, k⟩ := key (ps.zip ss) [] (st ++ [.lst []]) (.loc st.length) (fun y hy => g.mem (List.of_mem_zip hy).1) (by simp; omega) (by simpa using Own.new (st := st) [] [])
      rw [List.nil_append] at O
      obtain ⟨e10, e11, e12, lp⟩ := k (.tup [.str (wayS b), .tup (ps.map partW)]) (lowW m) none none none
      have tq := tupF_lst O.seq
      have zq : ∀ (a b1 c d e f g h : Option W) (x y z : Option W) s, zmI (axc (vr 5) (axc (vr 8) axn)) [a, b1, c, d, e, some (.tup (ps.map partW)), f, g, some (intsW ss), h, x, y, z] s = .ok (.st ((ps.zip ss).map fun y => .tup [partW y.1, .int y.2])) s := by
        intros
        exact (zmI_fl (xs := ps.map partW) (ys := ss.map W.int) (by simp only [bodyD, pad, sqS, ifS, orB, andB, notB, tb, bn, un, vr, kk, rtS, rnS, exS, orE, andE, chn, ifE, trB, passS, noS, setS, asgS, parS, axc, axn, flE, lsE, tupE, clE, mthE, mkE, lmE, forS, sqI, rg1, rg2, gSb, gFd, setFS, augFS, gNm, gTp, gsC, gsN, augS, augI, bkS, ctS, whS, slE, oxn, oxs, lpS, List.map_cons, List.map_nil, List.length_cons, List.length_nil, List.replicate, List.cons_append, List.nil_append, Nat.reduceAdd, Nat.reduceSub, List.getElem?_cons_succ, List.getElem?_cons_zero, List.set_cons_zero, List.set_cons_succ, R.toS_ok, R.bind_ok, R.toS_ite, R.bind_ite, SR.go_nx, SR.go_rt, SR.go_bk, SR.go_ct, SR.go_ite, SR.lp_nx, SR.lp_rt, SR.lp_bk, SR.lp_ct, SR.lp_ite, fin_nx, fin_rt, fin_ite, W.cb_bl, if_true, if_false, Bool.false_eq_true, eq_int, ne_int, eq_bl, ne_bl, mx2, mn2, int0, notW, truW, fdiv_ok, mod_ok, mul_okl, add_int, neg_int, int_bl, int_int, listLF_fl, listF_fl, listF_tup, listLF_tup, Int.reduceLT, Int.reduceLE, Int.reduceNeg, decide_true, decide_false, nxS, nxA, nxE, R.nox_ok, R.nox_ite, SR.nox_nx, SR.nox_rt, SR.nox_ite, R.bind_ex, R.toS_ex, SR.go_ex, fin_ex]; rfl)).trans (by rw [zipW_map])
      obtain ⟨s2, hs2⟩ := O.ext
      refine ⟨.tup [.str (wayS b), .tup ((((ps.zip ss).map fun y => (y.1.1.fit (if b then w1 else y.2) (if b then y.2 else h1), y.2))).map partW)], s2, ?_, by rw [← layW_node]; exact (lay_cl _).fzs⟩
      rw [← hs2]
      unfold r_fitted
      cases b
      · simp only [Bool.false_eq_true, if_false] at lp c1 c2 c3 ao tq ⊢
        simp only [bodyD, pad, sqS, ifS, orB, andB, notB, tb, bn, un, vr, kk, rtS, rnS, exS, orE, andE, chn, ifE, trB, passS, noS, setS, asgS, parS, axc, axn, flE, lsE, tupE, clE, mthE, mkE, lmE, forS, sqI, rg1, rg2, gSb, gFd, setFS, augFS, gNm, gTp, gsC, gsN, augS, augI, bkS, ctS, whS, slE, oxn, oxs, lpS, List.map_cons, List.map_nil, List.length_cons, List.length_nil, List.replicate, List.cons_append, List.nil_append, Nat.reduceAdd, Nat.reduceSub, List.getElem?_cons_succ, List.getElem?_cons_zero, List.set_cons_zero, List.set_cons_succ, R.toS_ok, R.bind_ok, R.toS_ite, R.bind_ite, SR.go_nx, SR.go_rt, SR.go_bk, SR.go_ct, SR.go_ite, SR.lp_nx, SR.lp_rt, SR.lp_bk, SR.lp_ct, SR.lp_ite, fin_nx, fin_rt, fin_ite, W.cb_bl, if_true, if_false, Bool.false_eq_true, eq_int, ne_int, eq_bl, ne_bl, mx2, mn2, int0, notW, truW, fdiv_ok, mod_ok, mul_okl, add_int, neg_int, int_bl, int_int, listLF_fl, listF_fl, listF_tup, listLF_tup, Int.reduceLT, Int.reduceLE, Int.reduceNeg, decide_true, decide_false, nxS, nxA, nxE, R.nox_ok, R.nox_ite, SR.nox_nx, SR.nox_rt, SR.nox_ite, R.bind_ex, R.toS_ex, SR.go_ex, fin_ex, ct, glow, l0, l1, hw, hh, ao, c1, c2, c3, zq, lp, tq, beq_self_eq_true]
      · simp only [if_true] at lp c1 c2 c3 ao tq ⊢
        simp only [bodyD, pad, sqS, ifS, orB, andB, notB, tb, bn, un, vr, kk, rtS, rnS, exS, orE, andE, chn, ifE, trB, passS, noS, setS, asgS, parS, axc, axn, flE, lsE, tupE, clE, mthE, mkE, lmE, forS, sqI, rg1, rg2, gSb, gFd, setFS, augFS, gNm, gTp, gsC, gsN, augS, augI, bkS, ctS, whS, slE, oxn, oxs, lpS, List.map_cons, List.map_nil, List.length_cons, List.length_nil, List.replicate, List.cons_append, List.nil_append, Nat.reduceAdd, Nat.reduceSub, List.getElem?_cons_succ, List.getElem?_cons_zero, List.set_cons_zero, List.set_cons_succ, R.toS_ok, R.bind_ok, R.toS_ite, R.bind_ite, SR.go_nx, SR.go_rt, SR.go_bk, SR.go_ct, SR.go_ite, SR.lp_nx, SR.lp_rt, SR.lp_bk, SR.lp_ct, SR.lp_ite, fin_nx, fin_rt, fin_ite, W.cb_bl, if_true, if_false, Bool.false_eq_true, eq_int, ne_int, eq_bl, ne_bl, mx2, mn2, int0, notW, truW, fdiv_ok, mod_ok, mul_okl, add_int, neg_int, int_bl, int_int, listLF_fl, listF_fl, listF_tup, listLF_tup, Int.reduceLT, Int.reduceLE, Int.reduceNeg, decide_true, decide_false, nxS, nxA, nxE, R.nox_ok, R.nox_ite, SR.nox_nx, SR.nox_rt, SR.nox_ite, R.bind_ex, R.toS_ex, SR.go_ex, fin_ex, ct, glow, l0, l1, hw, hh, ao, c1, c2, c3, zq, lp, tq, show ((1 : Int) == 0) = false from rfl]

def d_placed (n : Nat) : List W → Sto → R W := pureF (fun a : Lay × Int × Int × Int × Int => [layW a.1, .int a.2.1, .int a.2.2.1, .int a.2.2.2.1, .int a.2.2.2.2]) (fun a => Good n a.1)
  (fun a => .tup [.fl ((a.1.boxes a.2.1 a.2.2.1 a.2.2.2.1 a.2.2.2.2).map boxW), .fl ((a.1.borders a.2.1 a.2.2.1 a.2.2.2.1 a.2.2.2.2).map boxW)])

def b_placed_0 (slf : List W → Sto → R W) : Sx := (sqS (ifS (tb (bn eqW (vr 7) (kk (.str "beside")))) (sqS (ifS (tb (bn gtW (vr 9) (kk (.int 0)))) (exS (lmE appF (vr 6) (axc (tupE (axc (kk (.int 124)) (axc (vr 1) (axc (bn subW (vr 2) (kk (.int 1))) (axc (kk (.int 1)) (axc (vr 4) axn)))))) axn))) passS) (sqS (setS 12 (clE slf (axc (vr 10) (axc (vr 1) (axc (vr 2) (axc (vr 11) (axc (vr 4) axn))))))) (augS 2 (int0 fun i j => .int (i + j)) (bn addW (vr 11) (kk (.int 1)))))) (sqS (ifS (tb (bn gtW (vr 9) (kk (.int 0)))) (exS (lmE appF (vr 6) (axc (tupE (axc (kk (.int 45)) (axc (bn subW (vr 1) (kk (.int 1))) (axc (vr 2) (axc (vr 3) (axc (kk (.int 1)) axn)))))) axn))) passS) (sqS (setS 12 (clE slf (axc (vr 10) (axc (vr 1) (axc (vr 2) (axc (vr 3) (axc (vr 11) axn))))))) (augS 1 (int0 fun i j => .int (i + j)) (bn addW (vr 11) (kk (.int 1))))))) (sqS (setS 5 (bn addW (vr 5) (bn ixW (vr 12) (kk (.int 0))))) (setS 6 (bn addLW (vr 6) (bn ixW (vr 12) (kk (.int 1)))))))
/-! placed -/
def r_placed : Nat → List W → Sto → R W
  | 0 => bodyD 13 noS
  | n + 1 => bodyD 13 (sqS (ifS (trB (un (isiW .int) (vr 0))) (rtS (tupE (axc (flE (axc (tupE (axc (vr 0) (axc (vr 1) (axc (vr 2) (axc (vr 3) (axc (vr 4) axn)))))) axn)) (axc (flE axn) axn)))) passS) (sqS (setS 5 (flE axn)) (sqS (setS 6 (lsE axn)) (sqS (asgS (vr 0) (gTp 2 (gsC (gNm 7) (gsC (gNm 8) gsN)))) (sqS (forS (enJ (axc (vr 8) axn)) (gTp 2 (gsC (gNm 9) (gsC (gTp 2 (gsC (gNm 10) (gsC (gNm 11) gsN))) gsN))) (b_placed_0 (d_placed n))) (rtS (tupE (axc (vr 5) (axc (vr 6) axn)))))))))
theorem placed_ok {n : Nat} {L : Lay} {r c w h : Int} {st : Sto} (g : Good n L) : d_placed n [layW L, .int r, .int c, .int w, .int h] st = .ok (.tup [.fl ((L.boxes r c w h).map boxW), .fl ((L.borders r c w h).map boxW)]) st :=
  pureF_ok (fun a b e => boxes_enc e) (a := (L, r, c, w, h)) g
theorem placed_loop {n : Nat} (b : Bool) (X P : W) (cc w h : Int) (st : Sto) : ∀ (xs : List Part) (k : Nat) (acc ab : List Box) (o : Int) (s : Sto) (x : W) (e9 e10 e11 e12 : Option W), (∀ x ∈ xs, Good n x.1) → acc.length + (boxesL b cc w h o xs).length ≤ 100 → ab.length + (bordersL b cc w h k o xs).length ≤ 100 → Own st s x (ab.map boxW) →
    ∃ o' s' x' p9 p10 p11 p12, forL (gTp 2 (gsC (gNm 9) (gsC (gTp 2 (gsC (gNm 10) (gsC (gNm 11) gsN))) gsN))) (b_placed_0 (d_placed n)) ((xs.zipIdx k).map fun p => enG p.2 (partW p.1))
        [some X, some (.int (if b then o else cc)), some (.int (if b then cc else o)), some (.int w), some (.int h), some (.fl (acc.map boxW)), some x, some (.str (wayS b)), some P, e9, e10, e11, e12] s =
      .nx [some X, some (.int (if b then o' else cc)), some (.int (if b then cc else o')), some (.int w), some (.int h), some (.fl ((acc ++ boxesL b cc w h o xs).map boxW)), some x', some (.str (wayS b)), some P, p9, p10, p11, p12] s' ∧
      Own st s' x' ((ab ++ bordersL b cc w h k o xs).map boxW)
  | [], k, acc, ab, o, s, x, e9, e10, e11, e12, _, _, _, O => ⟨o, s, x, e9, e10, e11, e12, by simp [forL, boxesL], by simpa [bordersL] using O⟩
  | y :: ys, k, acc, ab, o, s, x, e9, e10, e11, e12, hg, hl, hl2, O => by
    have g := hg y (by simp)
    unfold boxesL at hl
    unfold bordersL at hl2
    rw [List.length_append] at hl hl2
    rw [List.length_append] at hl2
    have hO : ∃ s1, Own st s1 x ((ab ++ sepOf b cc w h k o).map boxW) ∧ (0 < k → appF x [boxW (if b then (45, o - 1, cc, w, 1) else (124, cc, o - 1, 1, h))] s = .ok .non s1) ∧ (¬ 0 < k → s1 = s) := by
      by_cases hk : 0 < k
      · obtain ⟨s1, ap, O1⟩ := O.app (by simp; omega) (boxW (if b then (45, o - 1, cc, w, 1) else (124, cc, o - 1, 1, h)))
        have e : sepOf b cc w h k o = [if b then (45, o - 1, cc, w, 1) else (124, cc, o - 1, 1, h)] := by unfold sepOf; rw [if_neg (by omega)]
        exact ⟨s1, by rw [e, List.map_append]; exact O1, fun _ => ap, fun q => absurd hk q⟩
      · have e : sepOf b cc w h k o = [] := by unfold sepOf; rw [if_pos (by omega)]
        exact ⟨s, by rw [e, List.append_nil]; exact O, fun q => absurd q hk, fun _ => rfl⟩
    obtain ⟨s1, O1, sa, sb⟩ := hO
    have rc := placed_ok (r := if b then o else cc) (c := if b then cc else o) (w := if b then w else y.2) (h := if b then y.2 else h) (st := s1) g
    have bx : (if b then y.1.boxes o cc w y.2 else y.1.boxes cc o y.2 h) = y.1.boxes (if b then o else cc) (if b then cc else o) (if b then w else y.2) (if b then y.2 else h) := by cases b <;> rfl
    have bd : (if b then y.1.borders o cc w y.2 else y.1.borders cc o y.2 h) = y.1.borders (if b then o else cc) (if b then cc else o) (if b then w else y.2) (if b then y.2 else h) := by cases b <;> rfl
    rw [bx] at hl
    rw [bd] at hl2
    generalize hB : y.1.boxes (if b then o else cc) (if b then cc else o) (if b then w else y.2) (if b then y.2 else h) = Bs at *
    generalize hD : y.1.borders (if b then o else cc) (if b then cc else o) (if b then w else y.2) (if b then y.2 else h) = Ds at *
    obtain ⟨s2, x2, ad2, O2⟩ := O1.add (y := .fl (Ds.map boxW)) (ys := Ds.map boxW) rfl (by simp; omega)
    rw [← List.map_append, List.append_assoc] at O2
    have ad1 : addW (.fl (acc.map boxW)) (.fl (Bs.map boxW)) s1 = .ok (.fl ((acc ++ Bs).map boxW)) s1 := by simp [addW, lstOf]; omega
    obtain ⟨o', s', x', p9, p10, p11, p12, ih, O'⟩ := placed_loop b X P cc w h st ys (k + 1) (acc ++ Bs) (ab ++ (sepOf b cc w h k o ++ Ds)) (o + y.2 + 1) s2 x2 (some (.int (k : Int))) (some (layW y.1)) (some (.int y.2)) (some (.tup [.fl (Bs.map boxW), .fl (Ds.map boxW)])) (fun z hz => hg z (by simp [hz])) (by simp; omega) (by simp; omega) O2
    have i0 : ∀ (u v : W) s, ixW (.tup [u, v]) (.int 0) s = .ok u s := fun u v s => rfl
    have i1 : ∀ (u v : W) s, ixW (.tup [u, v]) (.int 1) s = .ok v s := fun u v s => rfl
    have hb : b_placed_0 (d_placed n) [some X, some (.int (if b then o else cc)), some (.int (if b then cc else o)), some (.int w), some (.int h), some (.fl (acc.map boxW)), some x, some (.str (wayS b)), some P, some (.int (k : Int)), some (layW y.1), some (.int y.2), e12] s =
        .nx [some X, some (.int (if b then o + y.2 + 1 else cc)), some (.int (if b then cc else o + y.2 + 1)), some (.int w), some (.int h), some (.fl ((acc ++ Bs).map boxW)), some x2, some (.str (wayS b)), some P, some (.int (k : Int)), some (layW y.1), some (.int y.2), some (.tup [.fl (Bs.map boxW), .fl (Ds.map boxW)])] s2 := by
      have lk := O.lk
      have ar : ∀ i j : Int, i + (j + 1) = i + j + 1 := fun i j => by omega
      unfold b_placed_0
      by_cases hk : 0 < k
      · have hk2 : decide ((0 : Int) < (k : Int)) = true := by simpa using hk
        have sa := sa hk
        cases b
        · simp only [Bool.false_eq_true, if_false] at sa rc ⊢
          simp only [boxW] at sa
          simp only [bodyD, pad, sqS, ifS, orB, andB, notB, tb, bn, un, vr, kk, rtS, rnS, exS, orE, andE, chn, ifE, trB, passS, noS, setS, asgS, parS, axc, axn, flE, lsE, tupE, clE, mthE, mkE, lmE, forS, sqI, rg1, rg2, gSb, gFd, setFS, augFS, gNm, gTp, gsC, gsN, augS, augI, bkS, ctS, whS, slE, oxn, oxs, lpS, List.map_cons, List.map_nil, List.length_cons, List.length_nil, List.replicate, List.cons_append, List.nil_append, Nat.reduceAdd, Nat.reduceSub, List.getElem?_cons_succ, List.getElem?_cons_zero, List.set_cons_zero, List.set_cons_succ, R.toS_ok, R.bind_ok, R.toS_ite, R.bind_ite, SR.go_nx, SR.go_rt, SR.go_bk, SR.go_ct, SR.go_ite, SR.lp_nx, SR.lp_rt, SR.lp_bk, SR.lp_ct, SR.lp_ite, fin_nx, fin_rt, fin_ite, W.cb_bl, if_true, if_false, Bool.false_eq_true, eq_int, ne_int, eq_bl, ne_bl, mx2, mn2, int0, notW, truW, fdiv_ok, mod_ok, mul_okl, add_int, neg_int, int_bl, int_int, listLF_fl, listF_fl, listF_tup, listLF_tup, Int.reduceLT, Int.reduceLE, Int.reduceNeg, decide_true, decide_false, nxS, nxA, nxE, R.nox_ok, R.nox_ite, SR.nox_nx, SR.nox_rt, SR.nox_ite, R.bind_ex, R.toS_ex, SR.go_ex, fin_ex, eq_beside, Bool.not_false, hk2, lk, sa, rc, i0, i1, ad1, ad2, ar]
        · simp only [if_true] at sa rc ⊢
          simp only [boxW] at sa
          simp only [bodyD, pad, sqS, ifS, orB, andB, notB, tb, bn, un, vr, kk, rtS, rnS, exS, orE, andE, chn, ifE, trB, passS, noS, setS, asgS, parS, axc, axn, flE, lsE, tupE, clE, mthE, mkE, lmE, forS, sqI, rg1, rg2, gSb, gFd, setFS, augFS, gNm, gTp, gsC, gsN, augS, augI, bkS, ctS, whS, slE, oxn, oxs, lpS, List.map_cons, List.map_nil, List.length_cons, List.length_nil, List.replicate, List.cons_append, List.nil_append, Nat.reduceAdd, Nat.reduceSub, List.getElem?_cons_succ, List.getElem?_cons_zero, List.set_cons_zero, List.set_cons_succ, R.toS_ok, R.bind_ok, R.toS_ite, R.bind_ite, SR.go_nx, SR.go_rt, SR.go_bk, SR.go_ct, SR.go_ite, SR.lp_nx, SR.lp_rt, SR.lp_bk, SR.lp_ct, SR.lp_ite, fin_nx, fin_rt, fin_ite, W.cb_bl, if_true, if_false, Bool.false_eq_true, eq_int, ne_int, eq_bl, ne_bl, mx2, mn2, int0, notW, truW, fdiv_ok, mod_ok, mul_okl, add_int, neg_int, int_bl, int_int, listLF_fl, listF_fl, listF_tup, listLF_tup, Int.reduceLT, Int.reduceLE, Int.reduceNeg, decide_true, decide_false, nxS, nxA, nxE, R.nox_ok, R.nox_ite, SR.nox_nx, SR.nox_rt, SR.nox_ite, R.bind_ex, R.toS_ex, SR.go_ex, fin_ex, eq_beside, Bool.not_true, hk2, lk, sa, rc, i0, i1, ad1, ad2, ar]
      · have hk2 : decide ((0 : Int) < (k : Int)) = false := by simpa using hk
        have sb := sb hk
        rw [sb] at rc ad1 ad2
        cases b
        · simp only [Bool.false_eq_true, if_false] at rc ⊢
          simp only [bodyD, pad, sqS, ifS, orB, andB, notB, tb, bn, un, vr, kk, rtS, rnS, exS, orE, andE, chn, ifE, trB, passS, noS, setS, asgS, parS, axc, axn, flE, lsE, tupE, clE, mthE, mkE, lmE, forS, sqI, rg1, rg2, gSb, gFd, setFS, augFS, gNm, gTp, gsC, gsN, augS, augI, bkS, ctS, whS, slE, oxn, oxs, lpS, List.map_cons, List.map_nil, List.length_cons, List.length_nil, List.replicate, List.cons_append, List.nil_append, Nat.reduceAdd, Nat.reduceSub, List.getElem?_cons_succ, List.getElem?_cons_zero, List.set_cons_zero, List.set_cons_succ, R.toS_ok, R.bind_ok, R.toS_ite, R.bind_ite, SR.go_nx, SR.go_rt, SR.go_bk, SR.go_ct, SR.go_ite, SR.lp_nx, SR.lp_rt, SR.lp_bk, SR.lp_ct, SR.lp_ite, fin_nx, fin_rt, fin_ite, W.cb_bl, if_true, if_false, Bool.false_eq_true, eq_int, ne_int, eq_bl, ne_bl, mx2, mn2, int0, notW, truW, fdiv_ok, mod_ok, mul_okl, add_int, neg_int, int_bl, int_int, listLF_fl, listF_fl, listF_tup, listLF_tup, Int.reduceLT, Int.reduceLE, Int.reduceNeg, decide_true, decide_false, nxS, nxA, nxE, R.nox_ok, R.nox_ite, SR.nox_nx, SR.nox_rt, SR.nox_ite, R.bind_ex, R.toS_ex, SR.go_ex, fin_ex, eq_beside, Bool.not_false, hk2, rc, i0, i1, ad1, ad2, ar]
        · simp only [if_true] at rc ⊢
          simp only [bodyD, pad, sqS, ifS, orB, andB, notB, tb, bn, un, vr, kk, rtS, rnS, exS, orE, andE, chn, ifE, trB, passS, noS, setS, asgS, parS, axc, axn, flE, lsE, tupE, clE, mthE, mkE, lmE, forS, sqI, rg1, rg2, gSb, gFd, setFS, augFS, gNm, gTp, gsC, gsN, augS, augI, bkS, ctS, whS, slE, oxn, oxs, lpS, List.map_cons, List.map_nil, List.length_cons, List.length_nil, List.replicate, List.cons_append, List.nil_append, Nat.reduceAdd, Nat.reduceSub, List.getElem?_cons_succ, List.getElem?_cons_zero, List.set_cons_zero, List.set_cons_succ, R.toS_ok, R.bind_ok, R.toS_ite, R.bind_ite, SR.go_nx, SR.go_rt, SR.go_bk, SR.go_ct, SR.go_ite, SR.lp_nx, SR.lp_rt, SR.lp_bk, SR.lp_ct, SR.lp_ite, fin_nx, fin_rt, fin_ite, W.cb_bl, if_true, if_false, Bool.false_eq_true, eq_int, ne_int, eq_bl, ne_bl, mx2, mn2, int0, notW, truW, fdiv_ok, mod_ok, mul_okl, add_int, neg_int, int_bl, int_int, listLF_fl, listF_fl, listF_tup, listLF_tup, Int.reduceLT, Int.reduceLE, Int.reduceNeg, decide_true, decide_false, nxS, nxA, nxE, R.nox_ok, R.nox_ite, SR.nox_nx, SR.nox_rt, SR.nox_ite, R.bind_ex, R.toS_ex, SR.go_ex, fin_ex, eq_beside, Bool.not_true, hk2, rc, i0, i1, ad1, ad2, ar]
    refine ⟨o', s', x', p9, p10, p11, p12, ?_, ?_⟩
    · rw [List.zipIdx_cons, List.map_cons]
      unfold forL
      simp only [bodyD, pad, sqS, ifS, orB, andB, notB, tb, bn, un, vr, kk, rtS, rnS, exS, orE, andE, chn, ifE, trB, passS, noS, setS, asgS, parS, axc, axn, flE, lsE, tupE, clE, mthE, mkE, lmE, forS, sqI, rg1, rg2, gSb, gFd, setFS, augFS, gNm, gTp, gsC, gsN, augS, augI, bkS, ctS, whS, slE, oxn, oxs, lpS, List.map_cons, List.map_nil, List.length_cons, List.length_nil, List.replicate, List.cons_append, List.nil_append, Nat.reduceAdd, Nat.reduceSub, List.getElem?_cons_succ, List.getElem?_cons_zero, List.set_cons_zero, List.set_cons_succ, R.toS_ok, R.bind_ok, R.toS_ite, R.bind_ite, SR.go_nx, SR.go_rt, SR.go_bk, SR.go_ct, SR.go_ite, SR.lp_nx, SR.lp_rt, SR.lp_bk, SR.lp_ct, SR.lp_ite, fin_nx, fin_rt, fin_ite, W.cb_bl, if_true, if_false, Bool.false_eq_true, eq_int, ne_int, eq_bl, ne_bl, mx2, mn2, int0, notW, truW, fdiv_ok, mod_ok, mul_okl, add_int, neg_int, int_bl, int_int, listLF_fl, listF_fl, listF_tup, listLF_tup, Int.reduceLT, Int.reduceLE, Int.reduceNeg, decide_true, decide_false, nxS, nxA, nxE, R.nox_ok, R.nox_ite, SR.nox_nx, SR.nox_rt, SR.nox_ite, R.bind_ex, R.toS_ex, SR.go_ex, fin_ex, enG, partW]
      rw [hb]
      simp only [bodyD, pad, sqS, ifS, orB, andB, notB, tb, bn, un, vr, kk, rtS, rnS, exS, orE, andE, chn, ifE, trB, passS, noS, setS, asgS, parS, axc, axn, flE, lsE, tupE, clE, mthE, mkE, lmE, forS, sqI, rg1, rg2, gSb, gFd, setFS, augFS, gNm, gTp, gsC, gsN, augS, augI, bkS, ctS, whS, slE, oxn, oxs, lpS, List.map_cons, List.map_nil, List.length_cons, List.length_nil, List.replicate, List.cons_append, List.nil_append, Nat.reduceAdd, Nat.reduceSub, List.getElem?_cons_succ, List.getElem?_cons_zero, List.set_cons_zero, List.set_cons_succ, R.toS_ok, R.bind_ok, R.toS_ite, R.bind_ite, SR.go_nx, SR.go_rt, SR.go_bk, SR.go_ct, SR.go_ite, SR.lp_nx, SR.lp_rt, SR.lp_bk, SR.lp_ct, SR.lp_ite, fin_nx, fin_rt, fin_ite, W.cb_bl, if_true, if_false, Bool.false_eq_true, eq_int, ne_int, eq_bl, ne_bl, mx2, mn2, int0, notW, truW, fdiv_ok, mod_ok, mul_okl, add_int, neg_int, int_bl, int_int, listLF_fl, listF_fl, listF_tup, listLF_tup, Int.reduceLT, Int.reduceLE, Int.reduceNeg, decide_true, decide_false, nxS, nxA, nxE, R.nox_ok, R.nox_ite, SR.nox_nx, SR.nox_rt, SR.nox_ite, R.bind_ex, R.toS_ex, SR.go_ex, fin_ex]
      unfold boxesL
      rw [bx, ← List.append_assoc]
      exact ih
    · unfold bordersL
      rw [bd]
      simpa using O'
theorem gz_placed (n : Nat) : Gz 5 (r_placed n) (d_placed n) := by
  refine gz_pureF fun ⟨L, r, c, w, h⟩ st g => ?_
  have g : Good n L := g
  show ∃ w0 s2, r_placed n [layW L, .int r, .int c, .int w, .int h] st = .ok w0 (st ++ s2) ∧ Fzs st.length (st ++ s2) w0 (.tup [.fl ((L.boxes r c w h).map boxW), .fl ((L.borders r c w h).map boxW)])
  have cl : ∀ xs : List Box, Cl (.fl (xs.map boxW)) := fun xs => .fl (Cl.map boxW_cl)
  cases n with
  | zero => exact g.zero.elim
  | succ n =>
    cases L with
    | pane p =>
      have ct : isiW .int (.int p) st = .ok (.bl true) st := rfl
      refine ⟨_, [], ?_, Fzs.tup (.cons (cl _).fzs (.cons (cl _).fzs .nil))⟩
      rw [layW_pane, boxes_pane, borders_pane, List.append_nil]
      unfold r_placed
      simp only [bodyD, pad, sqS, ifS, orB, andB, notB, tb, bn, un, vr, kk, rtS, rnS, exS, orE, andE, chn, ifE, trB, passS, noS, setS, asgS, parS, axc, axn, flE, lsE, tupE, clE, mthE, mkE, lmE, forS, sqI, rg1, rg2, gSb, gFd, setFS, augFS, gNm, gTp, gsC, gsN, augS, augI, bkS, ctS, whS, slE, oxn, oxs, lpS, List.map_cons, List.map_nil, List.length_cons, List.length_nil, List.replicate, List.cons_append, List.nil_append, Nat.reduceAdd, Nat.reduceSub, List.getElem?_cons_succ, List.getElem?_cons_zero, List.set_cons_zero, List.set_cons_succ, R.toS_ok, R.bind_ok, R.toS_ite, R.bind_ite, SR.go_nx, SR.go_rt, SR.go_bk, SR.go_ct, SR.go_ite, SR.lp_nx, SR.lp_rt, SR.lp_bk, SR.lp_ct, SR.lp_ite, fin_nx, fin_rt, fin_ite, W.cb_bl, if_true, if_false, Bool.false_eq_true, eq_int, ne_int, eq_bl, ne_bl, mx2, mn2, int0, notW, truW, fdiv_ok, mod_ok, mul_okl, add_int, neg_int, int_bl, int_int, listLF_fl, listF_fl, listF_tup, listLF_tup, Int.reduceLT, Int.reduceLE, Int.reduceNeg, decide_true, decide_false, nxS, nxA, nxE, R.nox_ok, R.nox_ite, SR.nox_nx, SR.nox_rt, SR.nox_ite, R.bind_ex, R.toS_ex, SR.go_ex, fin_ex, ct, boxW]
    | node b ps =>
      have sm := g.sm
      have bl := borders_len g.ok r c w h
      have sm2 := sm
      rw [← boxes_len _ r c w h, boxes_node] at sm2
      rw [borders_node] at bl ⊢
      rw [layW_node, boxes_node]
      have ct : isiW .int (W.tup [.str (wayS b), .tup (ps.map partW)]) st = .ok (.bl false) st := rfl
      obtain ⟨o', s, x, p9, p10, p11, p12, lp, O⟩ := placed_loop (n := n) b (.tup [.str (wayS b), .tup (ps.map partW)]) (.tup (ps.map partW)) (if b then c else r) w h st ps 0 [] [] (if b then r else c) (st ++ [.lst []]) (.loc st.length) none none none none (fun x hx => g.mem hx) (by simpa using sm2) (by simp; omega) (by simpa using Own.new (st := st) [] [])
      simp only [List.map_nil, List.nil_append] at lp O
      have e1 : (if b then (if b then r else c) else (if b then c else r)) = r := by cases b <;> rfl
      have e2 : (if b then (if b then c else r) else (if b then r else c)) = c := by cases b <;> rfl
      rw [e1, e2] at lp
      obtain ⟨s2, hs2⟩ := O.ext
      have ej : ∀ (a0 a1 a2 a3 a4 a5 a6 a7 a9 a10 a11 a12 : Option W) s, enJ (axc (vr 8) axn) [a0, a1, a2, a3, a4, a5, a6, a7, some (.tup (ps.map partW)), a9, a10, a11, a12] s = .ok (.st (ps.zipIdx.map fun p => enG p.2 (partW p.1))) s := by
        intros
        rename_i s
        refine (enJ_tup (xs := ps.map partW) (st := s) (by simp only [bodyD, pad, sqS, ifS, orB, andB, notB, tb, bn, un, vr, kk, rtS, rnS, exS, orE, andE, chn, ifE, trB, passS, noS, setS, asgS, parS, axc, axn, flE, lsE, tupE, clE, mthE, mkE, lmE, forS, sqI, rg1, rg2, gSb, gFd, setFS, augFS, gNm, gTp, gsC, gsN, augS, augI, bkS, ctS, whS, slE, oxn, oxs, lpS, List.map_cons, List.map_nil, List.length_cons, List.length_nil, List.replicate, List.cons_append, List.nil_append, Nat.reduceAdd, Nat.reduceSub, List.getElem?_cons_succ, List.getElem?_cons_zero, List.set_cons_zero, List.set_cons_succ, R.toS_ok, R.bind_ok, R.toS_ite, R.bind_ite, SR.go_nx, SR.go_rt, SR.go_bk, SR.go_ct, SR.go_ite, SR.lp_nx, SR.lp_rt, SR.lp_bk, SR.lp_ct, SR.lp_ite, fin_nx, fin_rt, fin_ite, W.cb_bl, if_true, if_false, Bool.false_eq_true, eq_int, ne_int, eq_bl, ne_bl, mx2, mn2, int0, notW, truW, fdiv_ok, mod_ok, mul_okl, add_int, neg_int, int_bl, int_int, listLF_fl, listF_fl, listF_tup, listLF_tup, Int.reduceLT, Int.reduceLE, Int.reduceNeg, decide_true, decide_false, nxS, nxA, nxE, R.nox_ok, R.nox_ite, SR.nox_nx, SR.nox_rt, SR.nox_ite, R.bind_ex, R.toS_ex, SR.go_ex, fin_ex])).trans ?_
        rw [List.zipIdx_map, List.map_map]; rfl
      refine ⟨.tup [.fl ((boxesL b (if b then c else r) w h (if b then r else c) ps).map boxW), x], s2, ?_, ?_⟩
      · rw [← hs2]
        unfold r_placed
        simp only [bodyD, pad, sqS, ifS, orB, andB, notB, tb, bn, un, vr, kk, rtS, rnS, exS, orE, andE, chn, ifE, trB, passS, noS, setS, asgS, parS, axc, axn, flE, lsE, tupE, clE, mthE, mkE, lmE, forS, sqI, rg1, rg2, gSb, gFd, setFS, augFS, gNm, gTp, gsC, gsN, augS, augI, bkS, ctS, whS, slE, oxn, oxs, lpS, List.map_cons, List.map_nil, List.length_cons, List.length_nil, List.replicate, List.cons_append, List.nil_append, Nat.reduceAdd, Nat.reduceSub, List.getElem?_cons_succ, List.getElem?_cons_zero, List.set_cons_zero, List.set_cons_succ, R.toS_ok, R.bind_ok, R.toS_ite, R.bind_ite, SR.go_nx, SR.go_rt, SR.go_bk, SR.go_ct, SR.go_ite, SR.lp_nx, SR.lp_rt, SR.lp_bk, SR.lp_ct, SR.lp_ite, fin_nx, fin_rt, fin_ite, W.cb_bl, if_true, if_false, Bool.false_eq_true, eq_int, ne_int, eq_bl, ne_bl, mx2, mn2, int0, notW, truW, fdiv_ok, mod_ok, mul_okl, add_int, neg_int, int_bl, int_int, listLF_fl, listF_fl, listF_tup, listLF_tup, Int.reduceLT, Int.reduceLE, Int.reduceNeg, decide_true, decide_false, nxS, nxA, nxE, R.nox_ok, R.nox_ite, SR.nox_nx, SR.nox_rt, SR.nox_ite, R.bind_ex, R.toS_ex, SR.go_ex, fin_ex, ct, ej, lp]
      · rw [← hs2]
        exact Fzs.tup (.cons (cl _).fzs (.cons (O.fzs (Cl.map boxW_cl)) .nil))

/-! placed_whole -/
def r_placed_whole : List W → Sto → R W := bodyD 4 (sqS (setS 3 (clE (d_least 20) (axc (vr 0) axn))) (rtS (clE (d_placed 20) (axc (clE (d_fitted 20) (axc (vr 0) (axc (vr 1) (axc (vr 2) axn)))) (axc (kk (.int 0)) (axc (kk (.int 0)) (axc (clE maxF (axc (vr 1) (axc (bn ixW (vr 3) (kk (.int 0))) axn))) (axc (clE maxF (axc (vr 2) (axc (bn ixW (vr 3) (kk (.int 1))) axn))) axn))))))))
def d_placed_whole : List W → Sto → R W := pureF (fun a : Lay × Int × Int => [layW a.1, .int a.2.1, .int a.2.2]) (fun a => Good 20 a.1 ∧ a.2.1 ≤ 1000 ∧ a.2.2 ≤ 1000)
  (fun a => .tup [.fl ((a.1.allBoxes a.2.1 a.2.2).map boxW), .fl (((a.1.fit a.2.1 a.2.2).borders 0 0 (max a.2.1 a.1.low.1) (max a.2.2 a.1.low.2)).map boxW)])
theorem placed_whole_ok {L : Lay} {w h : Int} {st : Sto} (g : Good 20 L) (hw : w ≤ 1000) (hh : h ≤ 1000) : d_placed_whole [layW L, .int w, .int h] st =
    .ok (.tup [.fl ((L.allBoxes w h).map boxW), .fl (((L.fit w h).borders 0 0 (max w L.low.1) (max h L.low.2)).map boxW)]) st :=
  pureF_ok (fun a b e => fit_enc e) (a := (L, w, h)) ⟨g, hw, hh⟩
theorem gz_placed_whole : Gz 3 r_placed_whole d_placed_whole := by
  have cl : ∀ xs : List Box, Cl (.fl (xs.map boxW)) := fun xs => .fl (Cl.map boxW_cl)
  refine gz_pureF0 (fun a _ => .tup fun w hw => ?_) fun ⟨L, w, h⟩ st ⟨g, hw, hh⟩ => ⟨[], ?_⟩
  · simp only [List.mem_cons, List.not_mem_nil, or_false] at hw
    rcases hw with rfl | rfl <;> exact cl _
  have g : Good 20 L := g
  rw [List.append_nil]
  have q1 := least_ok (st := st) g
  have q2 := fitted_ok (w := w) (h := h) (st := st) g (by omega)
  have q3 := placed_ok (r := 0) (c := 0) (w := max w L.low.1) (h := max h L.low.2) (st := st) (g.fit (w := w) (k := h) hw hh)
  have l0 : ixW (lowW L.low) (.int 0) st = .ok (.int L.low.1) st := rfl
  have l1 : ixW (lowW L.low) (.int 1) st = .ok (.int L.low.2) st := rfl
  unfold r_placed_whole
  simp only [bodyD, pad, sqS, ifS, orB, andB, notB, tb, bn, un, vr, kk, rtS, rnS, exS, orE, andE, chn, ifE, trB, passS, noS, setS, asgS, parS, axc, axn, flE, lsE, tupE, clE, mthE, mkE, lmE, forS, sqI, rg1, rg2, gSb, gFd, setFS, augFS, gNm, gTp, gsC, gsN, augS, augI, bkS, ctS, whS, slE, oxn, oxs, lpS, List.map_cons, List.map_nil, List.length_cons, List.length_nil, List.replicate, List.cons_append, List.nil_append, Nat.reduceAdd, Nat.reduceSub, List.getElem?_cons_succ, List.getElem?_cons_zero, List.set_cons_zero, List.set_cons_succ, R.toS_ok, R.bind_ok, R.toS_ite, R.bind_ite, SR.go_nx, SR.go_rt, SR.go_bk, SR.go_ct, SR.go_ite, SR.lp_nx, SR.lp_rt, SR.lp_bk, SR.lp_ct, SR.lp_ite, fin_nx, fin_rt, fin_ite, W.cb_bl, if_true, if_false, Bool.false_eq_true, eq_int, ne_int, eq_bl, ne_bl, mx2, mn2, int0, notW, truW, fdiv_ok, mod_ok, mul_okl, add_int, neg_int, int_bl, int_int, listLF_fl, listF_fl, listF_tup, listLF_tup, Int.reduceLT, Int.reduceLE, Int.reduceNeg, decide_true, decide_false, nxS, nxA, nxE, R.nox_ok, R.nox_ite, SR.nox_nx, SR.nox_rt, SR.nox_ite, R.bind_ex, R.toS_ex, SR.go_ex, fin_ex, q1, q2, q3, l0, l1]
  rfl

/-! boxes -/
def r_boxes : List W → Sto → R W := bodyD 3 (rtS (bn ixW (clE d_placed_whole (axc (vr 0) (axc (vr 1) (axc (vr 2) axn)))) (kk (.int 0))))
abbrev d_boxes : List W → Sto → R W := r_boxes
theorem boxes_ok {L : Lay} {w h : Int} {st : Sto} (g : Good 20 L) (hw : w ≤ 1000) (hh : h ≤ 1000) : r_boxes [layW L, .int w, .int h] st = .ok (.fl ((L.allBoxes w h).map boxW)) st := by
  have q := placed_whole_ok (st := st) g hw hh
  have i0 : ∀ (u v : W) s, ixW (.tup [u, v]) (.int 0) s = .ok u s := fun u v s => rfl
  unfold r_boxes
  simp only [bodyD, pad, sqS, ifS, orB, andB, notB, tb, bn, un, vr, kk, rtS, rnS, exS, orE, andE, chn, ifE, trB, passS, noS, setS, asgS, parS, axc, axn, flE, lsE, tupE, clE, mthE, mkE, lmE, forS, sqI, rg1, rg2, gSb, gFd, setFS, augFS, gNm, gTp, gsC, gsN, augS, augI, bkS, ctS, whS, slE, oxn, oxs, lpS, List.map_cons, List.map_nil, List.length_cons, List.length_nil, List.replicate, List.cons_append, List.nil_append, Nat.reduceAdd, Nat.reduceSub, List.getElem?_cons_succ, List.getElem?_cons_zero, List.set_cons_zero, List.set_cons_succ, R.toS_ok, R.bind_ok, R.toS_ite, R.bind_ite, SR.go_nx, SR.go_rt, SR.go_bk, SR.go_ct, SR.go_ite, SR.lp_nx, SR.lp_rt, SR.lp_bk, SR.lp_ct, SR.lp_ite, fin_nx, fin_rt, fin_ite, W.cb_bl, if_true, if_false, Bool.false_eq_true, eq_int, ne_int, eq_bl, ne_bl, mx2, mn2, int0, notW, truW, fdiv_ok, mod_ok, mul_okl, add_int, neg_int, int_bl, int_int, listLF_fl, listF_fl, listF_tup, listLF_tup, Int.reduceLT, Int.reduceLE, Int.reduceNeg, decide_true, decide_false, nxS, nxA, nxE, R.nox_ok, R.nox_ite, SR.nox_nx, SR.nox_rt, SR.nox_ite, R.bind_ex, R.toS_ex, SR.go_ex, fin_ex, q, i0]

def b_size_of_0 : Sx := (ifS (tb (bn eqW (bn ixW (vr 5) (kk (.int 0))) (vr 3))) (rtS (bn ixW (vr 5) (bn addW (kk (.int 3)) (vr 4)))) passS)
/-! size_of -/
def r_size_of : List W → Sto → R W := bodyD 6 (sqS (forS (sqI (clE d_boxes (axc (vr 0) (axc (vr 1) (axc (vr 2) axn))))) (gNm 5) b_size_of_0) (rtS (kk (.int 0))))
def axW (b : Bool) : W := .int (if b then 1 else 0)
theorem size_enc {a b : Lay × Int × Int × Int × Bool} (e : [layW a.1, W.int a.2.1, W.int a.2.2.1, W.int a.2.2.2.1, axW a.2.2.2.2] = [layW b.1, W.int b.2.1, W.int b.2.2.1, W.int b.2.2.2.1, axW b.2.2.2.2]) : a = b := by
  obtain ⟨a1, a2, a3, a4, a5⟩ := a
  obtain ⟨b1, b2, b3, b4, b5⟩ := b
  simp only [List.cons.injEq, W.int.injEq, axW] at e
  have e5 : a5 = b5 := by
    have := e.2.2.2.2.1
    cases a5 <;> cases b5 <;> first | rfl | (exfalso; simp at this)
  rw [lay_inj e.1, e.2.1, e.2.2.1, e.2.2.2.1, e5]
def d_size_of : List W → Sto → R W := pureF (fun a : Lay × Int × Int × Int × Bool => [layW a.1, .int a.2.1, .int a.2.2.1, .int a.2.2.2.1, axW a.2.2.2.2]) (fun a => Good 20 a.1 ∧ a.2.1 ≤ 1000 ∧ a.2.2.1 ≤ 1000) (fun a => .int (a.1.room a.2.1 a.2.2.1 a.2.2.2.1 a.2.2.2.2))
theorem size_of_ok {L : Lay} {w h q : Int} {b : Bool} {st : Sto} (g : Good 20 L) (hw : w ≤ 1000) (hh : h ≤ 1000) : d_size_of [layW L, .int w, .int h, .int q, .int (if b then 1 else 0)] st = .ok (.int (L.room w h q b)) st :=
  pureF_ok (fun a b e => size_enc e) (a := (L, w, h, q, b)) ⟨g, hw, hh⟩
theorem size_of_loop (X w h : W) (q : Int) (b : Bool) (st : Sto) : ∀ (xs : List Box) (o : Option W), fin ((forL (gNm 5) b_size_of_0 (xs.map boxW) [some X, some w, some h, some (.int q), some (axW b), o] st).go (rtS (kk (.int 0)))) = .ok (.int (roomIn q b xs)) st
  | [], o => by simp [forL, roomIn, rtS, kk]
  | x :: xs, o => by
    have ih := size_of_loop X w h q b st xs (some (boxW x))
    have h0 : ixW (boxW x) (.int 0) st = .ok (.int x.1) st := rfl
    have h3 : ixW (boxW x) (.int (3 + if b then 1 else 0)) st = .ok (.int (if b then x.2.2.2.2 else x.2.2.2.1)) st := by cases b <;> rfl
    rw [List.map_cons]
    unfold forL roomIn
    have hb : b_size_of_0 [some X, some w, some h, some (.int q), some (axW b), some (boxW x)] st = if x.1 = q then .rt (.int (if b then x.2.2.2.2 else x.2.2.2.1)) st else .nx [some X, some w, some h, some (.int q), some (axW b), some (boxW x)] st := by
      unfold b_size_of_0 axW
      simp only [bodyD, pad, sqS, ifS, orB, andB, notB, tb, bn, un, vr, kk, rtS, rnS, exS, orE, andE, chn, ifE, trB, passS, noS, setS, asgS, parS, axc, axn, flE, lsE, tupE, clE, mthE, mkE, lmE, forS, sqI, rg1, rg2, gSb, gFd, setFS, augFS, gNm, gTp, gsC, gsN, augS, augI, bkS, ctS, whS, slE, oxn, oxs, lpS, List.map_cons, List.map_nil, List.length_cons, List.length_nil, List.replicate, List.cons_append, List.nil_append, Nat.reduceAdd, Nat.reduceSub, List.getElem?_cons_succ, List.getElem?_cons_zero, List.set_cons_zero, List.set_cons_succ, R.toS_ok, R.bind_ok, R.toS_ite, R.bind_ite, SR.go_nx, SR.go_rt, SR.go_bk, SR.go_ct, SR.go_ite, SR.lp_nx, SR.lp_rt, SR.lp_bk, SR.lp_ct, SR.lp_ite, fin_nx, fin_rt, fin_ite, W.cb_bl, if_true, if_false, Bool.false_eq_true, eq_int, ne_int, eq_bl, ne_bl, mx2, mn2, int0, notW, truW, fdiv_ok, mod_ok, mul_okl, add_int, neg_int, int_bl, int_int, listLF_fl, listF_fl, listF_tup, listLF_tup, Int.reduceLT, Int.reduceLE, Int.reduceNeg, decide_true, decide_false, nxS, nxA, nxE, R.nox_ok, R.nox_ite, SR.nox_nx, SR.nox_rt, SR.nox_ite, R.bind_ex, R.toS_ex, SR.go_ex, fin_ex, h0, h3, beq_iff_eq]
    simp only [bodyD, pad, sqS, ifS, orB, andB, notB, tb, bn, un, vr, kk, rtS, rnS, exS, orE, andE, chn, ifE, trB, passS, noS, setS, asgS, parS, axc, axn, flE, lsE, tupE, clE, mthE, mkE, lmE, forS, sqI, rg1, rg2, gSb, gFd, setFS, augFS, gNm, gTp, gsC, gsN, augS, augI, bkS, ctS, whS, slE, oxn, oxs, lpS, List.map_cons, List.map_nil, List.length_cons, List.length_nil, List.replicate, List.cons_append, List.nil_append, Nat.reduceAdd, Nat.reduceSub, List.getElem?_cons_succ, List.getElem?_cons_zero, List.set_cons_zero, List.set_cons_succ, R.toS_ok, R.bind_ok, R.toS_ite, R.bind_ite, SR.go_nx, SR.go_rt, SR.go_bk, SR.go_ct, SR.go_ite, SR.lp_nx, SR.lp_rt, SR.lp_bk, SR.lp_ct, SR.lp_ite, fin_nx, fin_rt, fin_ite, W.cb_bl, if_true, if_false, Bool.false_eq_true, eq_int, ne_int, eq_bl, ne_bl, mx2, mn2, int0, notW, truW, fdiv_ok, mod_ok, mul_okl, add_int, neg_int, int_bl, int_int, listLF_fl, listF_fl, listF_tup, listLF_tup, Int.reduceLT, Int.reduceLE, Int.reduceNeg, decide_true, decide_false, nxS, nxA, nxE, R.nox_ok, R.nox_ite, SR.nox_nx, SR.nox_rt, SR.nox_ite, R.bind_ex, R.toS_ex, SR.go_ex, fin_ex]
    rw [hb]
    by_cases e : x.1 = q
    · simp only [bodyD, pad, sqS, ifS, orB, andB, notB, tb, bn, un, vr, kk, rtS, rnS, exS, orE, andE, chn, ifE, trB, passS, noS, setS, asgS, parS, axc, axn, flE, lsE, tupE, clE, mthE, mkE, lmE, forS, sqI, rg1, rg2, gSb, gFd, setFS, augFS, gNm, gTp, gsC, gsN, augS, augI, bkS, ctS, whS, slE, oxn, oxs, lpS, List.map_cons, List.map_nil, List.length_cons, List.length_nil, List.replicate, List.cons_append, List.nil_append, Nat.reduceAdd, Nat.reduceSub, List.getElem?_cons_succ, List.getElem?_cons_zero, List.set_cons_zero, List.set_cons_succ, R.toS_ok, R.bind_ok, R.toS_ite, R.bind_ite, SR.go_nx, SR.go_rt, SR.go_bk, SR.go_ct, SR.go_ite, SR.lp_nx, SR.lp_rt, SR.lp_bk, SR.lp_ct, SR.lp_ite, fin_nx, fin_rt, fin_ite, W.cb_bl, if_true, if_false, Bool.false_eq_true, eq_int, ne_int, eq_bl, ne_bl, mx2, mn2, int0, notW, truW, fdiv_ok, mod_ok, mul_okl, add_int, neg_int, int_bl, int_int, listLF_fl, listF_fl, listF_tup, listLF_tup, Int.reduceLT, Int.reduceLE, Int.reduceNeg, decide_true, decide_false, nxS, nxA, nxE, R.nox_ok, R.nox_ite, SR.nox_nx, SR.nox_rt, SR.nox_ite, R.bind_ex, R.toS_ex, SR.go_ex, fin_ex, e]
    · simp only [bodyD, pad, sqS, ifS, orB, andB, notB, tb, bn, un, vr, kk, rtS, rnS, exS, orE, andE, chn, ifE, trB, passS, noS, setS, asgS, parS, axc, axn, flE, lsE, tupE, clE, mthE, mkE, lmE, forS, sqI, rg1, rg2, gSb, gFd, setFS, augFS, gNm, gTp, gsC, gsN, augS, augI, bkS, ctS, whS, slE, oxn, oxs, lpS, List.map_cons, List.map_nil, List.length_cons, List.length_nil, List.replicate, List.cons_append, List.nil_append, Nat.reduceAdd, Nat.reduceSub, List.getElem?_cons_succ, List.getElem?_cons_zero, List.set_cons_zero, List.set_cons_succ, R.toS_ok, R.bind_ok, R.toS_ite, R.bind_ite, SR.go_nx, SR.go_rt, SR.go_bk, SR.go_ct, SR.go_ite, SR.lp_nx, SR.lp_rt, SR.lp_bk, SR.lp_ct, SR.lp_ite, fin_nx, fin_rt, fin_ite, W.cb_bl, if_true, if_false, Bool.false_eq_true, eq_int, ne_int, eq_bl, ne_bl, mx2, mn2, int0, notW, truW, fdiv_ok, mod_ok, mul_okl, add_int, neg_int, int_bl, int_int, listLF_fl, listF_fl, listF_tup, listLF_tup, Int.reduceLT, Int.reduceLE, Int.reduceNeg, decide_true, decide_false, nxS, nxA, nxE, R.nox_ok, R.nox_ite, SR.nox_nx, SR.nox_rt, SR.nox_ite, R.bind_ex, R.toS_ex, SR.go_ex, fin_ex, e]
      exact ih
theorem gz_size_of : Gz 5 r_size_of d_size_of := by
  refine gz_pureF0 (fun a _ => .int _) fun ⟨L, w, h, q, b⟩ st ⟨g, hw, hh⟩ => ⟨[], ?_⟩
  rw [List.append_nil]
  have q1 := boxes_ok (st := st) g hw hh
  have q2 := size_of_loop (layW L) (.int w) (.int h) q b st (L.allBoxes w h) none
  simp only at q1
  unfold r_size_of
  simp only [bodyD, pad, sqS, ifS, orB, andB, notB, tb, bn, un, vr, kk, rtS, rnS, exS, orE, andE, chn, ifE, trB, passS, noS, setS, asgS, parS, axc, axn, flE, lsE, tupE, clE, mthE, mkE, lmE, forS, sqI, rg1, rg2, gSb, gFd, setFS, augFS, gNm, gTp, gsC, gsN, augS, augI, bkS, ctS, whS, slE, oxn, oxs, lpS, List.map_cons, List.map_nil, List.length_cons, List.length_nil, List.replicate, List.cons_append, List.nil_append, Nat.reduceAdd, Nat.reduceSub, List.getElem?_cons_succ, List.getElem?_cons_zero, List.set_cons_zero, List.set_cons_succ, R.toS_ok, R.bind_ok, R.toS_ite, R.bind_ite, SR.go_nx, SR.go_rt, SR.go_bk, SR.go_ct, SR.go_ite, SR.lp_nx, SR.lp_rt, SR.lp_bk, SR.lp_ct, SR.lp_ite, fin_nx, fin_rt, fin_ite, W.cb_bl, if_true, if_false, Bool.false_eq_true, eq_int, ne_int, eq_bl, ne_bl, mx2, mn2, int0, notW, truW, fdiv_ok, mod_ok, mul_okl, add_int, neg_int, int_bl, int_int, listLF_fl, listF_fl, listF_tup, listLF_tup, Int.reduceLT, Int.reduceLE, Int.reduceNeg, decide_true, decide_false, nxS, nxA, nxE, R.nox_ok, R.nox_ite, SR.nox_nx, SR.nox_rt, SR.nox_ite, R.bind_ex, R.toS_ex, SR.go_ex, fin_ex, q1]
  exact q2

def d_panes (n : Nat) : List W → Sto → R W := pureF (fun L : Lay => [layW L]) (Good n) (fun L => .fl (L.panes.map W.int))

def b_panes_0 (slf : List W → Sto → R W) : Sx := (setS 1 (bn addW (vr 1) (clE slf (axc (vr 2) axn))))
/-! panes -/
def r_panes : Nat → List W → Sto → R W
  | 0 => bodyD 4 noS
  | n + 1 => bodyD 4 (sqS (ifS (trB (un (isiW .int) (vr 0))) (rtS (flE (axc (vr 0) axn))) passS) (sqS (setS 1 (flE axn)) (sqS (forS (sqI (bn ixW (vr 0) (kk (.int 1)))) (gTp 2 (gsC (gNm 2) (gsC (gNm 3) gsN))) (b_panes_0 (d_panes n))) (rtS (vr 1)))))
theorem panes_ok {n : Nat} {L : Lay} {st : Sto} (h : Good n L) : d_panes n [layW L] st = .ok (.fl (L.panes.map W.int)) st :=
  pureF_ok (fun a b e => lay_inj (List.cons.inj e).1) h
theorem gz_panes (n : Nat) : Gz 1 (r_panes n) (d_panes n) := by
  refine gz_pureF0 (fun a _ => .fl (Cl.map .int)) fun L st h => ⟨[], ?_⟩
  rw [List.append_nil]
  cases n with
  | zero => exact h.zero.elim
  | succ n =>
    cases L with
    | pane p => rw [layW_pane, panes_pane]; unfold r_panes; simp [bodyD, pad, sqS, ifS, orB, andB, notB, tb, bn, un, addW, mulW, negW, notW, mulOk, int0, intW, vr, kk, rtS, rnS, exS, orE, andE, chn, ifE, trB, truW, lstOf, seqOf, lstK, passS, noS, setS, asgS, parS, axc, axn, flE, lsE, tupE, clE, mthE, mkE, isIns, fldW, setFS, augFS, setFd, gFd, gNm, gTp, gsC, gsN, augS, lenF, absF, intF, allF, anyF, sumF, maxF, minF, listF, listLF, tupF, isiW, tyOf, Ty.le, ixW, lmE, appF, extF, popF, flatW, veqW, inW, ninW, forS, sqI, lpS, forL, rg1, rg2, slE, slF, slLF, oxn, oxs, inT, getT, isnW, nonW, isbW, nibW, idxF, firstI, gSb, setI, ixN, bkS, ctS, whS, eq_int, ne_int, eq_bl, ne_bl, atI_l0, atI_l1, atI_l2, atI_l3, intsOf_map, blsOf_map, intsOf_mapf, blsOf_mapf, intsOf_mapc, blsOf_mapc, lstK]
    | node b ps =>
      rw [layW_node]
      generalize hX : W.tup [.str (wayS b), .tup (ps.map partW)] = X
      have loop : ∃ e1 e2, forL (gTp 2 (gsC (gNm 2) (gsC (gNm 3) gsN))) (b_panes_0 (d_panes n)) (ps.map partW) [some X, some (.fl []), none, none] st =
          .nx [some X, some (.fl ((Lay.node b ps).panes.map W.int)), e1, e2] st := by
        refine forL_wp (Q := fun r => ∃ e1 e2, r = .nx [some X, some (.fl ((Lay.node b ps).panes.map W.int)), e1, e2] st) (fun xs env s => ∃ acc e1 e2, env = [some X, some (.fl (acc.map W.int)), e1, e2] ∧ s = st ∧ acc ++ xs.flatMap (fun x => x.1.panes) = (Lay.node b ps).panes ∧ ∀ x ∈ xs, Good n x.1)
          (fun x xs env s hi => ?_) (fun env s hi => ?_) ps _ _ ⟨[], none, none, rfl, rfl, by rw [panes_node]; rfl, fun x hx => h.mem hx⟩
        · obtain ⟨acc, e1, e2, rfl, rfl, ha, hd⟩ := hi
          have h2 := h.sm
          have hl := congrArg List.length ha
          simp only [List.length_append, List.flatMap_cons] at hl
          have hb : b_panes_0 (d_panes n) [some X, some (.fl (acc.map W.int)), some (layW x.1), some (.int x.2)] s = .nx [some X, some (.fl ((acc ++ x.1.panes).map W.int)), some (layW x.1), some (.int x.2)] s := by
            unfold b_panes_0
            simp [bodyD, pad, sqS, ifS, orB, andB, notB, tb, bn, un, addW, mulW, negW, notW, mulOk, int0, intW, vr, kk, rtS, rnS, exS, orE, andE, chn, ifE, trB, truW, lstOf, seqOf, lstK, passS, noS, setS, asgS, parS, axc, axn, flE, lsE, tupE, clE, mthE, mkE, isIns, fldW, setFS, augFS, setFd, gFd, gNm, gTp, gsC, gsN, augS, lenF, absF, intF, allF, anyF, sumF, maxF, minF, listF, listLF, tupF, isiW, tyOf, Ty.le, ixW, lmE, appF, extF, popF, flatW, veqW, inW, ninW, forS, sqI, lpS, forL, rg1, rg2, slE, slF, slLF, oxn, oxs, inT, getT, isnW, nonW, isbW, nibW, idxF, firstI, gSb, setI, ixN, bkS, ctS, whS, eq_int, ne_int, eq_bl, ne_bl, atI_l0, atI_l1, atI_l2, atI_l3, intsOf_map, blsOf_map, intsOf_mapf, blsOf_mapf, intsOf_mapc, blsOf_mapc, lstK, panes_ok (st := s) (hd x (by simp))]
            omega
          simp only [tkQ, partW, gTp, gsC, gsN, gNm, List.length_cons, List.length_nil, if_true, R.bind_ok, List.set_cons_succ, List.set_cons_zero]
          rw [hb]
          exact ⟨acc ++ x.1.panes, _, _, rfl, rfl, by rw [← ha, List.flatMap_cons, List.append_assoc], fun y hy => hd y (by simp [hy])⟩
        · obtain ⟨acc, e1, e2, rfl, rfl, ha, hd⟩ := hi
          simp only [List.flatMap_nil, List.append_nil] at ha
          exact ⟨e1, e2, by rw [ha]⟩
      obtain ⟨e1, e2, loop⟩ := loop
      unfold r_panes
      simp [bodyD, pad, sqS, ifS, orB, andB, notB, tb, bn, un, addW, mulW, negW, notW, mulOk, int0, intW, vr, kk, rtS, rnS, exS, orE, andE, chn, ifE, trB, truW, lstOf, seqOf, lstK, passS, noS, setS, asgS, parS, axc, axn, flE, lsE, tupE, clE, mthE, mkE, isIns, fldW, setFS, augFS, setFd, gFd, gNm, gTp, gsC, gsN, augS, lenF, absF, intF, allF, anyF, sumF, maxF, minF, listF, listLF, tupF, isiW, tyOf, Ty.le, ixW, lmE, appF, extF, popF, flatW, veqW, inW, ninW, forS, sqI, lpS, forL, rg1, rg2, slE, slF, slLF, oxn, oxs, inT, getT, isnW, nonW, isbW, nibW, idxF, firstI, gSb, setI, ixN, bkS, ctS, whS, eq_int, ne_int, eq_bl, ne_bl, atI_l0, atI_l1, atI_l2, atI_l3, intsOf_map, blsOf_map, intsOf_mapf, blsOf_mapf, intsOf_mapc, blsOf_mapc, lstK, ← hX]
      rw [hX, loop]
      simp [bodyD, pad, sqS, ifS, orB, andB, notB, tb, bn, un, addW, mulW, negW, notW, mulOk, int0, intW, vr, kk, rtS, rnS, exS, orE, andE, chn, ifE, trB, truW, lstOf, seqOf, lstK, passS, noS, setS, asgS, parS, axc, axn, flE, lsE, tupE, clE, mthE, mkE, isIns, fldW, setFS, augFS, setFd, gFd, gNm, gTp, gsC, gsN, augS, lenF, absF, intF, allF, anyF, sumF, maxF, minF, listF, listLF, tupF, isiW, tyOf, Ty.le, ixW, lmE, appF, extF, popF, flatW, veqW, inW, ninW, forS, sqI, lpS, forL, rg1, rg2, slE, slF, slLF, oxn, oxs, inT, getT, isnW, nonW, isbW, nibW, idxF, firstI, gSb, setI, ixN, bkS, ctS, whS, eq_int, ne_int, eq_bl, ne_bl, atI_l0, atI_l1, atI_l2, atI_l3, intsOf_map, blsOf_map, intsOf_mapf, blsOf_mapf, intsOf_mapc, blsOf_mapc, lstK]

def d_with_new (n : Nat) : List W → Sto → R W := pureF (fun a : Lay × Int × Bool × Int × Int => [layW a.1, .int a.2.1, .str (wayS a.2.2.1), .int a.2.2.2.1, .int a.2.2.2.2]) (fun a => Good n a.1 ∧ n ≤ 20 ∧ a.2.1 ∈ a.1.panes) (fun a => layW (a.1.split a.2.1 a.2.2.1 a.2.2.2.1 a.2.2.2.2))

def b_with_new_0 (slf : List W → Sto → R W) : Sx := (ifS (andB (tb (bn eqW (vr 8) (vr 1))) (tb (bn eqW (bn ixW (vr 0) (kk (.int 0))) (vr 2)))) (exS (lmE extTF (vr 7) (axc (vr 6) axn))) (ifS (tb (bn inW (vr 1) (clE (d_panes 20) (axc (vr 8) axn)))) (exS (lmE appF (vr 7) (axc (tupE (axc (clE slf (axc (vr 8) (axc (vr 1) (axc (vr 2) (axc (vr 3) (axc (vr 4) axn)))))) (axc (vr 9) axn))) axn))) (exS (lmE appF (vr 7) (axc (tupE (axc (vr 8) (axc (vr 9) axn))) axn)))))
/-! with_new -/
def r_with_new : Nat → List W → Sto → R W
  | 0 => bodyD 10 noS
  | n + 1 => bodyD 10 (sqS (setS 5 (bn fdivW (bn subW (vr 4) (kk (.int 1))) (kk (.int 2)))) (sqS (setS 6 (tupE (axc (tupE (axc (vr 1) (axc (bn subW (bn subW (vr 4) (kk (.int 1))) (vr 5)) axn))) (axc (tupE (axc (vr 3) (axc (vr 5) axn))) axn)))) (sqS (ifS (tb (bn eqW (vr 0) (vr 1))) (rtS (tupE (axc (vr 2) (axc (vr 6) axn)))) passS) (sqS (setS 7 (lsE axn)) (sqS (forS (sqI (bn ixW (vr 0) (kk (.int 1)))) (gTp 2 (gsC (gNm 8) (gsC (gNm 9) gsN))) (b_with_new_0 (d_with_new n))) (rtS (tupE (axc (bn ixW (vr 0) (kk (.int 0))) (axc (clE tupF (axc (vr 7) axn)) axn)))))))))
theorem withN_enc {a b : Lay × Int × Bool × Int × Int} (e : [layW a.1, W.int a.2.1, W.str (wayS a.2.2.1), W.int a.2.2.2.1, W.int a.2.2.2.2] = [layW b.1, W.int b.2.1, W.str (wayS b.2.2.1), W.int b.2.2.2.1, W.int b.2.2.2.2]) : a = b := by
  obtain ⟨a1, a2, a3, a4, a5⟩ := a
  obtain ⟨b1, b2, b3, b4, b5⟩ := b
  simp only [List.cons.injEq, W.int.injEq, W.str.injEq] at e
  rw [lay_inj e.1, e.2.1, wayS_eq e.2.2.1, e.2.2.2.1, e.2.2.2.2.1]
theorem with_new_ok {n : Nat} {L : Lay} {q new size : Int} {way : Bool} {st : Sto} (g : Good n L) (hn : n ≤ 20) (hq : q ∈ L.panes) : d_with_new n [layW L, .int q, .str (wayS way), .int new, .int size] st = .ok (layW (L.split q way new size)) st :=
  pureF_ok (fun a b e => withN_enc e) (a := (L, q, way, new, size)) ⟨g, hn, hq⟩
theorem split_out {q new size : Int} {way : Bool} : ∀ L : Lay, q ∉ L.panes → L.split q way new size = L :=
  Lay.ind (fun p h => by
    rw [split_pane, if_neg (fun e => h (by rw [panes_pane, e]; simp))]) fun b ps ih h => by
  rw [split_node]
  have : ∀ xs : List Part, (∀ x ∈ xs, x ∈ ps) → (xs.flatMap fun x => if x.1 = .pane q ∧ b = way then pairOf q new size else [(x.1.split q way new size, x.2)]) = xs := by
    intro xs
    induction xs with
    | nil => intro _; rfl
    | cons x xs ihx =>
      intro hx
      have hq : q ∉ x.1.panes := fun m => h (by rw [panes_node]; exact List.mem_flatMap.mpr ⟨x, hx x (by simp), m⟩)
      rw [List.flatMap_cons, if_neg (fun c => hq (by rw [c.1, panes_pane]; simp)), ih x (hx x (by simp)) hq, ihx fun y hy => hx y (by simp [hy])]
      rfl
  rw [this ps fun x hx => hx]
def pairN (q new size : Int) : W := .tup ((pairOf q new size).map partW)
theorem with_new_loop {n : Nat} (hn : n ≤ 20) (b : Bool) (X : W) (hX : ∀ s, ixW X (.int 0) s = .ok (.str (wayS b)) s) (q : Int) (way : Bool) (new size half : Int) (st : Sto) : ∀ (xs acc : List Part) (s : Sto) (x : W) (e8 e9 : Option W), (∀ y ∈ xs, Good n y.1) → acc.length + 2 * xs.length ≤ 1000 → Own st s x (acc.map partW) →
    ∃ s' x' e8' e9', forL (gTp 2 (gsC (gNm 8) (gsC (gNm 9) gsN))) (b_with_new_0 (d_with_new n)) (xs.map partW) [some X, some (.int q), some (.str (wayS way)), some (.int new), some (.int size), some (.int half), some (pairN q new size), some x, e8, e9] s =
      .nx [some X, some (.int q), some (.str (wayS way)), some (.int new), some (.int size), some (.int half), some (pairN q new size), some x', e8', e9'] s' ∧
      Own st s' x' ((acc ++ xs.flatMap fun y => if y.1 = .pane q ∧ b = way then pairOf q new size else [(y.1.split q way new size, y.2)]).map partW)
  | [], acc, s, x, e8, e9, _, _, O => ⟨s, x, e8, e9, by simp [forL], by simpa using O⟩
  | y :: ys, acc, s, x, e8, e9, hg, hl, O => by
    have g := hg y (by simp)
    rw [List.length_cons] at hl
    have d1 := g.dp
    have i1 := eq_layI (L := y.1) (by omega) q s
    have lk := O.lk
    rw [List.map_cons]
    unfold forL
    by_cases hc : y.1 = .pane q ∧ b = way
    · obtain ⟨s', ad, O'⟩ := O.extT (ys := (pairOf q new size).map partW) (by simp [pairOf]; omega)
      rw [← List.map_append] at O'
      obtain ⟨s2, x2, a8, a9, ih, O2⟩ := with_new_loop hn b X hX q way new size half st ys (acc ++ pairOf q new size) s' x (some (layW y.1)) (some (.int y.2)) (fun z hz => hg z (by simp [hz])) (by simp [pairOf]; omega) O'
      refine ⟨s2, x2, a8, a9, ?_, by rw [List.flatMap_cons, if_pos hc, ← List.append_assoc]; exact O2⟩
      have hb : b_with_new_0 (d_with_new n) [some X, some (.int q), some (.str (wayS way)), some (.int new), some (.int size), some (.int half), some (pairN q new size), some x, some (layW y.1), some (.int y.2)] s =
          .nx [some X, some (.int q), some (.str (wayS way)), some (.int new), some (.int size), some (.int half), some (pairN q new size), some x, some (layW y.1), some (.int y.2)] s' := by
        unfold b_with_new_0
        have i2 : eqW (layW y.1) (.int q) s = .ok (.bl true) s := by rw [i1]; simp [hc.1]
        simp only [bodyD, pad, sqS, ifS, orB, andB, notB, tb, bn, un, vr, kk, rtS, rnS, exS, orE, andE, chn, ifE, trB, passS, noS, setS, asgS, parS, axc, axn, flE, lsE, tupE, clE, mthE, mkE, lmE, forS, sqI, rg1, rg2, gSb, gFd, setFS, augFS, gNm, gTp, gsC, gsN, augS, augI, bkS, ctS, whS, slE, oxn, oxs, lpS, List.map_cons, List.map_nil, List.length_cons, List.length_nil, List.replicate, List.cons_append, List.nil_append, Nat.reduceAdd, Nat.reduceSub, List.getElem?_cons_succ, List.getElem?_cons_zero, List.set_cons_zero, List.set_cons_succ, R.toS_ok, R.bind_ok, R.toS_ite, R.bind_ite, SR.go_nx, SR.go_rt, SR.go_bk, SR.go_ct, SR.go_ite, SR.lp_nx, SR.lp_rt, SR.lp_bk, SR.lp_ct, SR.lp_ite, fin_nx, fin_rt, fin_ite, W.cb_bl, if_true, if_false, Bool.false_eq_true, eq_int, ne_int, eq_bl, ne_bl, mx2, mn2, int0, notW, truW, fdiv_ok, mod_ok, mul_okl, add_int, neg_int, int_bl, int_int, listLF_fl, listF_fl, listF_tup, listLF_tup, Int.reduceLT, Int.reduceLE, Int.reduceNeg, decide_true, decide_false, nxS, nxA, nxE, R.nox_ok, R.nox_ite, SR.nox_nx, SR.nox_rt, SR.nox_ite, R.bind_ex, R.toS_ex, SR.go_ex, fin_ex, i2, hX, eq_way, hc.2, beq_self_eq_true, pairN, lk, ad]
      simp only [bodyD, pad, sqS, ifS, orB, andB, notB, tb, bn, un, vr, kk, rtS, rnS, exS, orE, andE, chn, ifE, trB, passS, noS, setS, asgS, parS, axc, axn, flE, lsE, tupE, clE, mthE, mkE, lmE, forS, sqI, rg1, rg2, gSb, gFd, setFS, augFS, gNm, gTp, gsC, gsN, augS, augI, bkS, ctS, whS, slE, oxn, oxs, lpS, List.map_cons, List.map_nil, List.length_cons, List.length_nil, List.replicate, List.cons_append, List.nil_append, Nat.reduceAdd, Nat.reduceSub, List.getElem?_cons_succ, List.getElem?_cons_zero, List.set_cons_zero, List.set_cons_succ, R.toS_ok, R.bind_ok, R.toS_ite, R.bind_ite, SR.go_nx, SR.go_rt, SR.go_bk, SR.go_ct, SR.go_ite, SR.lp_nx, SR.lp_rt, SR.lp_bk, SR.lp_ct, SR.lp_ite, fin_nx, fin_rt, fin_ite, W.cb_bl, if_true, if_false, Bool.false_eq_true, eq_int, ne_int, eq_bl, ne_bl, mx2, mn2, int0, notW, truW, fdiv_ok, mod_ok, mul_okl, add_int, neg_int, int_bl, int_int, listLF_fl, listF_fl, listF_tup, listLF_tup, Int.reduceLT, Int.reduceLE, Int.reduceNeg, decide_true, decide_false, nxS, nxA, nxE, R.nox_ok, R.nox_ite, SR.nox_nx, SR.nox_rt, SR.nox_ite, R.bind_ex, R.toS_ex, SR.go_ex, fin_ex, partW]
      rw [hb]
      simp only [bodyD, pad, sqS, ifS, orB, andB, notB, tb, bn, un, vr, kk, rtS, rnS, exS, orE, andE, chn, ifE, trB, passS, noS, setS, asgS, parS, axc, axn, flE, lsE, tupE, clE, mthE, mkE, lmE, forS, sqI, rg1, rg2, gSb, gFd, setFS, augFS, gNm, gTp, gsC, gsN, augS, augI, bkS, ctS, whS, slE, oxn, oxs, lpS, List.map_cons, List.map_nil, List.length_cons, List.length_nil, List.replicate, List.cons_append, List.nil_append, Nat.reduceAdd, Nat.reduceSub, List.getElem?_cons_succ, List.getElem?_cons_zero, List.set_cons_zero, List.set_cons_succ, R.toS_ok, R.bind_ok, R.toS_ite, R.bind_ite, SR.go_nx, SR.go_rt, SR.go_bk, SR.go_ct, SR.go_ite, SR.lp_nx, SR.lp_rt, SR.lp_bk, SR.lp_ct, SR.lp_ite, fin_nx, fin_rt, fin_ite, W.cb_bl, if_true, if_false, Bool.false_eq_true, eq_int, ne_int, eq_bl, ne_bl, mx2, mn2, int0, notW, truW, fdiv_ok, mod_ok, mul_okl, add_int, neg_int, int_bl, int_int, listLF_fl, listF_fl, listF_tup, listLF_tup, Int.reduceLT, Int.reduceLE, Int.reduceNeg, decide_true, decide_false, nxS, nxA, nxE, R.nox_ok, R.nox_ite, SR.nox_nx, SR.nox_rt, SR.nox_ite, R.bind_ex, R.toS_ex, SR.go_ex, fin_ex]
      exact ih
    · obtain ⟨s', ap, O'⟩ := O.app (by simp; omega) (partW (y.1.split q way new size, y.2))
      rw [← List.map_singleton, ← List.map_append] at O'
      obtain ⟨s2, x2, a8, a9, ih, O2⟩ := with_new_loop hn b X hX q way new size half st ys (acc ++ [(y.1.split q way new size, y.2)]) s' x (some (layW y.1)) (some (.int y.2)) (fun z hz => hg z (by simp [hz])) (by simp; omega) O'
      refine ⟨s2, x2, a8, a9, ?_, by rw [List.flatMap_cons, if_neg hc, ← List.append_assoc]; exact O2⟩
      have pn := panes_ok (st := s) (g.mono hn)
      have inp : inW (.int q) (.fl (y.1.panes.map W.int)) s = .ok (.bl (decide (q ∈ y.1.panes))) s := in_panes q _ s
      have hb : b_with_new_0 (d_with_new n) [some X, some (.int q), some (.str (wayS way)), some (.int new), some (.int size), some (.int half), some (pairN q new size), some x, some (layW y.1), some (.int y.2)] s =
          .nx [some X, some (.int q), some (.str (wayS way)), some (.int new), some (.int size), some (.int half), some (pairN q new size), some x, some (layW y.1), some (.int y.2)] s' := by
        unfold b_with_new_0
        simp only [partW] at ap
        by_cases hm : q ∈ y.1.panes
        · have rc := with_new_ok (q := q) (way := way) (new := new) (size := size) (st := s) g hn hm
          have hm2 : decide (q ∈ y.1.panes) = true := by simpa using hm
          by_cases h1 : y.1 = .pane q
          · have h2 : (b == way) = false := by simpa using fun e => hc ⟨h1, e⟩
            have i2 : eqW (layW y.1) (.int q) s = .ok (.bl true) s := by rw [i1]; simp [h1]
            simp only [bodyD, pad, sqS, ifS, orB, andB, notB, tb, bn, un, vr, kk, rtS, rnS, exS, orE, andE, chn, ifE, trB, passS, noS, setS, asgS, parS, axc, axn, flE, lsE, tupE, clE, mthE, mkE, lmE, forS, sqI, rg1, rg2, gSb, gFd, setFS, augFS, gNm, gTp, gsC, gsN, augS, augI, bkS, ctS, whS, slE, oxn, oxs, lpS, List.map_cons, List.map_nil, List.length_cons, List.length_nil, List.replicate, List.cons_append, List.nil_append, Nat.reduceAdd, Nat.reduceSub, List.getElem?_cons_succ, List.getElem?_cons_zero, List.set_cons_zero, List.set_cons_succ, R.toS_ok, R.bind_ok, R.toS_ite, R.bind_ite, SR.go_nx, SR.go_rt, SR.go_bk, SR.go_ct, SR.go_ite, SR.lp_nx, SR.lp_rt, SR.lp_bk, SR.lp_ct, SR.lp_ite, fin_nx, fin_rt, fin_ite, W.cb_bl, if_true, if_false, Bool.false_eq_true, eq_int, ne_int, eq_bl, ne_bl, mx2, mn2, int0, notW, truW, fdiv_ok, mod_ok, mul_okl, add_int, neg_int, int_bl, int_int, listLF_fl, listF_fl, listF_tup, listLF_tup, Int.reduceLT, Int.reduceLE, Int.reduceNeg, decide_true, decide_false, nxS, nxA, nxE, R.nox_ok, R.nox_ite, SR.nox_nx, SR.nox_rt, SR.nox_ite, R.bind_ex, R.toS_ex, SR.go_ex, fin_ex, i2, hX, eq_way, h2, pn, inp, hm2, lk, rc, ap]
          · have h1 : decide (y.1 = .pane q) = false := by simpa using h1
            simp only [bodyD, pad, sqS, ifS, orB, andB, notB, tb, bn, un, vr, kk, rtS, rnS, exS, orE, andE, chn, ifE, trB, passS, noS, setS, asgS, parS, axc, axn, flE, lsE, tupE, clE, mthE, mkE, lmE, forS, sqI, rg1, rg2, gSb, gFd, setFS, augFS, gNm, gTp, gsC, gsN, augS, augI, bkS, ctS, whS, slE, oxn, oxs, lpS, List.map_cons, List.map_nil, List.length_cons, List.length_nil, List.replicate, List.cons_append, List.nil_append, Nat.reduceAdd, Nat.reduceSub, List.getElem?_cons_succ, List.getElem?_cons_zero, List.set_cons_zero, List.set_cons_succ, R.toS_ok, R.bind_ok, R.toS_ite, R.bind_ite, SR.go_nx, SR.go_rt, SR.go_bk, SR.go_ct, SR.go_ite, SR.lp_nx, SR.lp_rt, SR.lp_bk, SR.lp_ct, SR.lp_ite, fin_nx, fin_rt, fin_ite, W.cb_bl, if_true, if_false, Bool.false_eq_true, eq_int, ne_int, eq_bl, ne_bl, mx2, mn2, int0, notW, truW, fdiv_ok, mod_ok, mul_okl, add_int, neg_int, int_bl, int_int, listLF_fl, listF_fl, listF_tup, listLF_tup, Int.reduceLT, Int.reduceLE, Int.reduceNeg, decide_true, decide_false, nxS, nxA, nxE, R.nox_ok, R.nox_ite, SR.nox_nx, SR.nox_rt, SR.nox_ite, R.bind_ex, R.toS_ex, SR.go_ex, fin_ex, i1, h1, pn, inp, hm2, lk, rc, ap]
        · have hm2 : decide (q ∈ y.1.panes) = false := by simpa using hm
          have h1 : decide (y.1 = .pane q) = false := by
            simp only [decide_eq_false_iff_not]
            exact fun e => hm (by rw [e, panes_pane]; simp)
          rw [split_out _ hm] at ap
          simp only [bodyD, pad, sqS, ifS, orB, andB, notB, tb, bn, un, vr, kk, rtS, rnS, exS, orE, andE, chn, ifE, trB, passS, noS, setS, asgS, parS, axc, axn, flE, lsE, tupE, clE, mthE, mkE, lmE, forS, sqI, rg1, rg2, gSb, gFd, setFS, augFS, gNm, gTp, gsC, gsN, augS, augI, bkS, ctS, whS, slE, oxn, oxs, lpS, List.map_cons, List.map_nil, List.length_cons, List.length_nil, List.replicate, List.cons_append, List.nil_append, Nat.reduceAdd, Nat.reduceSub, List.getElem?_cons_succ, List.getElem?_cons_zero, List.set_cons_zero, List.set_cons_succ, R.toS_ok, R.bind_ok, R.toS_ite, R.bind_ite, SR.go_nx, SR.go_rt, SR.go_bk, SR.go_ct, SR.go_ite, SR.lp_nx, SR.lp_rt, SR.lp_bk, SR.lp_ct, SR.lp_ite, fin_nx, fin_rt, fin_ite, W.cb_bl, if_true, if_false, Bool.false_eq_true, eq_int, ne_int, eq_bl, ne_bl, mx2, mn2, int0, notW, truW, fdiv_ok, mod_ok, mul_okl, add_int, neg_int, int_bl, int_int, listLF_fl, listF_fl, listF_tup, listLF_tup, Int.reduceLT, Int.reduceLE, Int.reduceNeg, decide_true, decide_false, nxS, nxA, nxE, R.nox_ok, R.nox_ite, SR.nox_nx, SR.nox_rt, SR.nox_ite, R.bind_ex, R.toS_ex, SR.go_ex, fin_ex, i1, h1, pn, inp, hm2, lk, ap]
      simp only [bodyD, pad, sqS, ifS, orB, andB, notB, tb, bn, un, vr, kk, rtS, rnS, exS, orE, andE, chn, ifE, trB, passS, noS, setS, asgS, parS, axc, axn, flE, lsE, tupE, clE, mthE, mkE, lmE, forS, sqI, rg1, rg2, gSb, gFd, setFS, augFS, gNm, gTp, gsC, gsN, augS, augI, bkS, ctS, whS, slE, oxn, oxs, lpS, List.map_cons, List.map_nil, List.length_cons, List.length_nil, List.replicate, List.cons_append, List.nil_append, Nat.reduceAdd, Nat.reduceSub, List.getElem?_cons_succ, List.getElem?_cons_zero, List.set_cons_zero, List.set_cons_succ, R.toS_ok, R.bind_ok, R.toS_ite, R.bind_ite, SR.go_nx, SR.go_rt, SR.go_bk, SR.go_ct, SR.go_ite, SR.lp_nx, SR.lp_rt, SR.lp_bk, SR.lp_ct, SR.lp_ite, fin_nx, fin_rt, fin_ite, W.cb_bl, if_true, if_false, Bool.false_eq_true, eq_int, ne_int, eq_bl, ne_bl, mx2, mn2, int0, notW, truW, fdiv_ok, mod_ok, mul_okl, add_int, neg_int, int_bl, int_int, listLF_fl, listF_fl, listF_tup, listLF_tup, Int.reduceLT, Int.reduceLE, Int.reduceNeg, decide_true, decide_false, nxS, nxA, nxE, R.nox_ok, R.nox_ite, SR.nox_nx, SR.nox_rt, SR.nox_ite, R.bind_ex, R.toS_ex, SR.go_ex, fin_ex, partW]
      rw [hb]
      simp only [bodyD, pad, sqS, ifS, orB, andB, notB, tb, bn, un, vr, kk, rtS, rnS, exS, orE, andE, chn, ifE, trB, passS, noS, setS, asgS, parS, axc, axn, flE, lsE, tupE, clE, mthE, mkE, lmE, forS, sqI, rg1, rg2, gSb, gFd, setFS, augFS, gNm, gTp, gsC, gsN, augS, augI, bkS, ctS, whS, slE, oxn, oxs, lpS, List.map_cons, List.map_nil, List.length_cons, List.length_nil, List.replicate, List.cons_append, List.nil_append, Nat.reduceAdd, Nat.reduceSub, List.getElem?_cons_succ, List.getElem?_cons_zero, List.set_cons_zero, List.set_cons_succ, R.toS_ok, R.bind_ok, R.toS_ite, R.bind_ite, SR.go_nx, SR.go_rt, SR.go_bk, SR.go_ct, SR.go_ite, SR.lp_nx, SR.lp_rt, SR.lp_bk, SR.lp_ct, SR.lp_ite, fin_nx, fin_rt, fin_ite, W.cb_bl, if_true, if_false, Bool.false_eq_true, eq_int, ne_int, eq_bl, ne_bl, mx2, mn2, int0, notW, truW, fdiv_ok, mod_ok, mul_okl, add_int, neg_int, int_bl, int_int, listLF_fl, listF_fl, listF_tup, listLF_tup, Int.reduceLT, Int.reduceLE, Int.reduceNeg, decide_true, decide_false, nxS, nxA, nxE, R.nox_ok, R.nox_ite, SR.nox_nx, SR.nox_rt, SR.nox_ite, R.bind_ex, R.toS_ex, SR.go_ex, fin_ex]
      exact ih
theorem gz_with_new (n : Nat) : Gz 5 (r_with_new n) (d_with_new n) := by
  refine gz_pureF fun ⟨L, q, way, new, size⟩ st ⟨g, hn, hq⟩ => ?_
  have g : Good n L := g
  have hq : q ∈ L.panes := hq
  show ∃ w0 s2, r_with_new n [layW L, .int q, .str (wayS way), .int new, .int size] st = .ok w0 (st ++ s2) ∧ Fzs st.length (st ++ s2) w0 (layW (L.split q way new size))
  have hp : W.tup [.tup [.int q, .int (size - 1 - (size - 1) / 2)], .tup [.int new, .int ((size - 1) / 2)]] = pairN q new size := by
    simp [pairN, pairOf, partW, layW_pane]
  cases n with
  | zero => exact g.zero.elim
  | succ n =>
    cases L with
    | pane p =>
      rw [panes_pane, List.mem_singleton] at hq
      subst hq
      refine ⟨layW ((Lay.pane q).split q way new size), [], ?_, (lay_cl _).fzs⟩
      rw [layW_pane, split_pane, if_pos rfl, layW_node]
      unfold r_with_new
      have bb : ((q : Int) == q) = true := by simp
      simp only [bodyD, pad, sqS, ifS, orB, andB, notB, tb, bn, un, vr, kk, rtS, rnS, exS, orE, andE, chn, ifE, trB, passS, noS, setS, asgS, parS, axc, axn, flE, lsE, tupE, clE, mthE, mkE, lmE, forS, sqI, rg1, rg2, gSb, gFd, setFS, augFS, gNm, gTp, gsC, gsN, augS, augI, bkS, ctS, whS, slE, oxn, oxs, lpS, List.map_cons, List.map_nil, List.length_cons, List.length_nil, List.replicate, List.cons_append, List.nil_append, Nat.reduceAdd, Nat.reduceSub, List.getElem?_cons_succ, List.getElem?_cons_zero, List.set_cons_zero, List.set_cons_succ, R.toS_ok, R.bind_ok, R.toS_ite, R.bind_ite, SR.go_nx, SR.go_rt, SR.go_bk, SR.go_ct, SR.go_ite, SR.lp_nx, SR.lp_rt, SR.lp_bk, SR.lp_ct, SR.lp_ite, fin_nx, fin_rt, fin_ite, W.cb_bl, if_true, if_false, Bool.false_eq_true, eq_int, ne_int, eq_bl, ne_bl, mx2, mn2, int0, notW, truW, fdiv_ok, mod_ok, mul_okl, add_int, neg_int, int_bl, int_int, listLF_fl, listF_fl, listF_tup, listLF_tup, Int.reduceLT, Int.reduceLE, Int.reduceNeg, decide_true, decide_false, nxS, nxA, nxE, R.nox_ok, R.nox_ite, SR.nox_nx, SR.nox_rt, SR.nox_ite, R.bind_ex, R.toS_ex, SR.go_ex, fin_ex, hp, bb, List.append_nil]
      rfl
    | node b ps =>
      have hl := g.len
      have dd := g.dp
      have ne := eq_layI (L := .node b ps) (by omega) q st
      have ne2 : decide (Lay.node b ps = .pane q) = false := by simp
      rw [ne2] at ne
      rw [layW_node] at ne ⊢
      rw [split_node, layW_node]
      have hX : ∀ s, ixW (W.tup [.str (wayS b), .tup (ps.map partW)]) (.int 0) s = .ok (.str (wayS b)) s := fun s => by simp [bodyD, pad, sqS, ifS, orB, andB, notB, tb, bn, un, addW, mulW, negW, notW, mulOk, int0, intW, vr, kk, rtS, rnS, exS, orE, andE, chn, ifE, trB, truW, lstOf, seqOf, lstK, passS, noS, setS, asgS, parS, axc, axn, flE, lsE, tupE, clE, mthE, mkE, isIns, fldW, setFS, augFS, setFd, gFd, gNm, gTp, gsC, gsN, augS, lenF, absF, intF, allF, anyF, sumF, maxF, minF, listF, listLF, tupF, isiW, tyOf, Ty.le, ixW, lmE, appF, extF, popF, flatW, veqW, inW, ninW, forS, sqI, lpS, forL, rg1, rg2, slE, slF, slLF, oxn, oxs, inT, getT, isnW, nonW, isbW, nibW, idxF, firstI, gSb, setI, ixN, bkS, ctS, whS, eq_int, ne_int, eq_bl, ne_bl, atI_l0, atI_l1, atI_l2, atI_l3, intsOf_map, blsOf_map, intsOf_mapf, blsOf_mapf, intsOf_mapc, blsOf_mapc, lstK]
      have hX1 : ∀ s, ixW (W.tup [.str (wayS b), .tup (ps.map partW)]) (.int 1) s = .ok (.tup (ps.map partW)) s := fun s => by simp [bodyD, pad, sqS, ifS, orB, andB, notB, tb, bn, un, addW, mulW, negW, notW, mulOk, int0, intW, vr, kk, rtS, rnS, exS, orE, andE, chn, ifE, trB, truW, lstOf, seqOf, lstK, passS, noS, setS, asgS, parS, axc, axn, flE, lsE, tupE, clE, mthE, mkE, isIns, fldW, setFS, augFS, setFd, gFd, gNm, gTp, gsC, gsN, augS, lenF, absF, intF, allF, anyF, sumF, maxF, minF, listF, listLF, tupF, isiW, tyOf, Ty.le, ixW, lmE, appF, extF, popF, flatW, veqW, inW, ninW, forS, sqI, lpS, forL, rg1, rg2, slE, slF, slLF, oxn, oxs, inT, getT, isnW, nonW, isbW, nibW, idxF, firstI, gSb, setI, ixN, bkS, ctS, whS, eq_int, ne_int, eq_bl, ne_bl, atI_l0, atI_l1, atI_l2, atI_l3, intsOf_map, blsOf_map, intsOf_mapf, blsOf_mapf, intsOf_mapc, blsOf_mapc, lstK]
      generalize W.tup [.str (wayS b), .tup (ps.map partW)] = X at *
      obtain ⟨s', x', e8, e9, lp, O⟩ := with_new_loop (n := n) (by omega) b X hX q way new size ((size - 1) / 2) st ps [] (st ++ [.lst []]) (.loc st.length) none none (fun y hy => g.mem hy) (by simp; omega) (by simpa using Own.new (st := st) [] [])
      obtain ⟨s2, hs2⟩ := O.ext
      simp only [List.nil_append] at O
      have tq := tupF_lst O.seq
      refine ⟨_, s2, ?_, (layW_node b _ ▸ lay_cl (.node b _)).fzs⟩
      rw [← hs2]
      unfold r_with_new
      simp only [bodyD, pad, sqS, ifS, orB, andB, notB, tb, bn, un, vr, kk, rtS, rnS, exS, orE, andE, chn, ifE, trB, passS, noS, setS, asgS, parS, axc, axn, flE, lsE, tupE, clE, mthE, mkE, lmE, forS, sqI, rg1, rg2, gSb, gFd, setFS, augFS, gNm, gTp, gsC, gsN, augS, augI, bkS, ctS, whS, slE, oxn, oxs, lpS, List.map_cons, List.map_nil, List.length_cons, List.length_nil, List.replicate, List.cons_append, List.nil_append, Nat.reduceAdd, Nat.reduceSub, List.getElem?_cons_succ, List.getElem?_cons_zero, List.set_cons_zero, List.set_cons_succ, R.toS_ok, R.bind_ok, R.toS_ite, R.bind_ite, SR.go_nx, SR.go_rt, SR.go_bk, SR.go_ct, SR.go_ite, SR.lp_nx, SR.lp_rt, SR.lp_bk, SR.lp_ct, SR.lp_ite, fin_nx, fin_rt, fin_ite, W.cb_bl, if_true, if_false, Bool.false_eq_true, eq_int, ne_int, eq_bl, ne_bl, mx2, mn2, int0, notW, truW, fdiv_ok, mod_ok, mul_okl, add_int, neg_int, int_bl, int_int, listLF_fl, listF_fl, listF_tup, listLF_tup, Int.reduceLT, Int.reduceLE, Int.reduceNeg, decide_true, decide_false, nxS, nxA, nxE, R.nox_ok, R.nox_ite, SR.nox_nx, SR.nox_rt, SR.nox_ite, R.bind_ex, R.toS_ex, SR.go_ex, fin_ex, hp, ne, hX, hX1, lp, tq]

/-! divided -/
def r_divided : List W → Sto → R W := bodyD 7 (sqS (nxS (setS 0 (clE (d_fitted 20) (axc (vr 0) (axc (vr 1) (axc (vr 2) axn)))))) (sqS (nxS (setS 6 (clE d_size_of (axc (vr 0) (axc (vr 1) (axc (vr 2) (axc (vr 3) (axc (clE d_axis_of (axc (vr 4) axn)) axn)))))))) (sqS (ifS (tb (bn ltW (vr 6) (un (getS t_LEAST_SPLIT) (vr 4)))) (raS 0 (axc (jsE [(kk (.str "pane ")), (fmE (vr 3)), (kk (.str " has no room"))]) axn)) passS) (nxS (rtS (clE (d_fitted 20) (axc (clE (d_with_new 20) (axc (vr 0) (axc (vr 3) (axc (vr 4) (axc (vr 5) (axc (vr 6) axn)))))) (axc (vr 1) (axc (vr 2) axn)))))))))
theorem divP_enc {a b : Lay × Int × Int × Int × Bool × Int} (e : [layW a.1, W.int a.2.1, W.int a.2.2.1, W.int a.2.2.2.1, W.str (wayS a.2.2.2.2.1), W.int a.2.2.2.2.2] = [layW b.1, W.int b.2.1, W.int b.2.2.1, W.int b.2.2.2.1, W.str (wayS b.2.2.2.2.1), W.int b.2.2.2.2.2]) : a = b := by
  obtain ⟨a1, a2, a3, a4, a5, a6⟩ := a
  obtain ⟨b1, b2, b3, b4, b5, b6⟩ := b
  simp only [List.cons.injEq, W.int.injEq, W.str.injEq] at e
  rw [lay_inj e.1, e.2.1, e.2.2.1, e.2.2.2.1, wayS_eq e.2.2.2.2.1, e.2.2.2.2.2.1]
def divP : List W → Sto → R W := pureF (fun a : Lay × Int × Int × Int × Bool × Int => [layW a.1, .int a.2.1, .int a.2.2.1, .int a.2.2.2.1, .str (wayS a.2.2.2.2.1), .int a.2.2.2.2.2])
  (fun a => Sound 19 a.1 ∧ a.2.1 ≤ 1000 ∧ a.2.2.1 ≤ 1000 ∧ a.2.2.2.1 ∈ a.1.panes ∧ a.2.2.2.2.2 ∉ a.1.panes ∧ a.2.2.2.1.natAbs.log2 < 1920) (fun a => optW (a.1.divided a.2.1 a.2.2.1 a.2.2.2.1 a.2.2.2.2.1 a.2.2.2.2.2))
def orX (r : R W) : R W := r.bind fun w s => match w with
  | .non => .ex 0 s
  | w => .ok w s
def d_divided (ws : List W) (st : Sto) : R W := orX (divP ws st)
theorem orX_none (s : Sto) : orX (.ok (optW none) s) = .ex 0 s := rfl
theorem orX_some (M : Lay) (s : Sto) : orX (.ok (optW (some M)) s) = .ok (layW M) s := by
  cases M with
  | pane p => show orX (.ok (layW (.pane p)) s) = _; rw [layW_pane]; rfl
  | node b ps => show orX (.ok (layW (.node b ps)) s) = _; rw [layW_node]; rfl
theorem divP_ok {L : Lay} {w h q new : Int} {b : Bool} {st : Sto} (g : Sound 19 L) (hw : w ≤ 1000) (hh : h ≤ 1000) (hq : q ∈ L.panes) (hn : new ∉ L.panes) (hz : q.natAbs.log2 < 1920) : divP [layW L, .int w, .int h, .int q, .str (wayS b), .int new] st = .ok (optW (L.divided w h q b new)) st :=
  pureF_ok (fun a b e => divP_enc e) (a := (L, w, h, q, b, new)) ⟨g, hw, hh, hq, hn, hz⟩
theorem divided_some {L M : Lay} {w h q new : Int} {b : Bool} {st : Sto} (g : Sound 19 L) (hw : w ≤ 1000) (hh : h ≤ 1000) (hq : q ∈ L.panes) (hn : new ∉ L.panes) (hz : q.natAbs.log2 < 1920) (e : L.divided w h q b new = some M) : d_divided [layW L, .int w, .int h, .int q, .str (wayS b), .int new] st = .ok (layW M) st := by
  unfold d_divided; rw [divP_ok g hw hh hq hn hz, e, orX_some]
theorem divided_none {L : Lay} {w h q new : Int} {b : Bool} {st : Sto} (g : Sound 19 L) (hw : w ≤ 1000) (hh : h ≤ 1000) (hq : q ∈ L.panes) (hn : new ∉ L.panes) (hz : q.natAbs.log2 < 1920) (e : L.divided w h q b new = none) : d_divided [layW L, .int w, .int h, .int q, .str (wayS b), .int new] st = .ex 0 st := by
  unfold d_divided; rw [divP_ok g hw hh hq hn hz, e, orX_none]
theorem room_fit {N : Nat} {L : Lay} (s : Sound N L) (hN : N ≤ 100) (w h q : Int) (b : Bool) : (L.fit w h).room w h q b = L.room w h q b := by
  unfold Lay.room Lay.allBoxes
  rw [fit_idem (by omega) s.ok (Nat.le_trans s.ln hN), fit_low]
theorem least_split (b : Bool) (st : Sto) : getS t_LEAST_SPLIT (.str (wayS b)) st = .ok (.int (if b then 3 else 5)) st := by
  cases b <;> rfl
theorem divided_run {L : Lay} {w h q new : Int} {b : Bool} {st : Sto} (s : Sound 19 L) (hw : w ≤ 1000) (hh : h ≤ 1000) (hq : q ∈ L.panes) (hn : new ∉ L.panes) (hz : q.natAbs.log2 < 1920) : r_divided [layW L, .int w, .int h, .int q, .str (wayS b), .int new] st = orX (.ok (optW (L.divided w h q b new)) st) := by
  have q2 := fitted_ok (w := w) (h := h) (st := st) (s.good (n := 20) (by omega) (by omega)) (by omega)
  have f := s.fit (by omega) hw hh
  have q1 := size_of_ok (q := q) (b := b) (st := st) (f.good (n := 20) (by omega) (by omega)) hw hh
  rw [room_fit s (by omega)] at q1
  have ax := axis_of_ok b st
  have ls := least_split b st
  have rm := s.room (by omega) hw hh q b
  have hqf : q ∈ (L.fit w h).panes := by rw [fit_panes]; exact hq
  unfold r_divided Lay.divided
  by_cases c : L.room w h q b < (if b then 3 else 5)
  · rw [if_pos c, orX_none]
    obtain ⟨y, fs⟩ := fs_int (a := "pane ") (b := " has no room") (m := vr 3) (env := [some (layW (L.fit w h)), some (.int w), some (.int h), some (.int q), some (.str (wayS b)), some (.int new), some (.int (L.room w h q b))]) (st := st) (q := q) rfl hz (by decide) (by decide)
    simp only [bodyD, pad, sqS, ifS, orB, andB, notB, tb, bn, un, vr, kk, rtS, rnS, exS, orE, andE, chn, ifE, trB, passS, noS, setS, asgS, parS, axc, axn, flE, lsE, tupE, clE, mthE, mkE, lmE, forS, sqI, rg1, rg2, gSb, gFd, setFS, augFS, gNm, gTp, gsC, gsN, augS, augI, bkS, ctS, whS, slE, oxn, oxs, lpS, List.map_cons, List.map_nil, List.length_cons, List.length_nil, List.replicate, List.cons_append, List.nil_append, Nat.reduceAdd, Nat.reduceSub, List.getElem?_cons_succ, List.getElem?_cons_zero, List.set_cons_zero, List.set_cons_succ, R.toS_ok, R.bind_ok, R.toS_ite, R.bind_ite, SR.go_nx, SR.go_rt, SR.go_bk, SR.go_ct, SR.go_ite, SR.lp_nx, SR.lp_rt, SR.lp_bk, SR.lp_ct, SR.lp_ite, fin_nx, fin_rt, fin_ite, W.cb_bl, if_true, if_false, Bool.false_eq_true, eq_int, ne_int, eq_bl, ne_bl, mx2, mn2, int0, notW, truW, fdiv_ok, mod_ok, mul_okl, add_int, neg_int, int_bl, int_int, listLF_fl, listF_fl, listF_tup, listLF_tup, Int.reduceLT, Int.reduceLE, Int.reduceNeg, decide_true, decide_false, nxS, nxA, nxE, R.nox_ok, R.nox_ite, SR.nox_nx, SR.nox_rt, SR.nox_ite, R.bind_ex, R.toS_ex, SR.go_ex, fin_ex, q2, ax, q1, ls, c, decide_true, raS, fs]
  · rw [if_neg c, orX_some]
    have sp := f.split (q := q) (way := b) (size := L.room w h q b) (new := new) (by cases b <;> simp at c <;> omega) rm (by rw [fit_panes]; exact hn)
    have q3 := with_new_ok (n := 20) (q := q) (way := b) (new := new) (size := L.room w h q b) (st := st) (f.good (n := 20) (by omega) (by omega)) (by omega) hqf
    have q4 := fitted_ok (w := w) (h := h) (st := st) (sp.good (n := 20) (by omega) (by omega)) (by omega)
    simp only [bodyD, pad, sqS, ifS, orB, andB, notB, tb, bn, un, vr, kk, rtS, rnS, exS, orE, andE, chn, ifE, trB, passS, noS, setS, asgS, parS, axc, axn, flE, lsE, tupE, clE, mthE, mkE, lmE, forS, sqI, rg1, rg2, gSb, gFd, setFS, augFS, gNm, gTp, gsC, gsN, augS, augI, bkS, ctS, whS, slE, oxn, oxs, lpS, List.map_cons, List.map_nil, List.length_cons, List.length_nil, List.replicate, List.cons_append, List.nil_append, Nat.reduceAdd, Nat.reduceSub, List.getElem?_cons_succ, List.getElem?_cons_zero, List.set_cons_zero, List.set_cons_succ, R.toS_ok, R.bind_ok, R.toS_ite, R.bind_ite, SR.go_nx, SR.go_rt, SR.go_bk, SR.go_ct, SR.go_ite, SR.lp_nx, SR.lp_rt, SR.lp_bk, SR.lp_ct, SR.lp_ite, fin_nx, fin_rt, fin_ite, W.cb_bl, if_true, if_false, Bool.false_eq_true, eq_int, ne_int, eq_bl, ne_bl, mx2, mn2, int0, notW, truW, fdiv_ok, mod_ok, mul_okl, add_int, neg_int, int_bl, int_int, listLF_fl, listF_fl, listF_tup, listLF_tup, Int.reduceLT, Int.reduceLE, Int.reduceNeg, decide_true, decide_false, nxS, nxA, nxE, R.nox_ok, R.nox_ite, SR.nox_nx, SR.nox_rt, SR.nox_ite, R.bind_ex, R.toS_ex, SR.go_ex, fin_ex, q2, ax, q1, ls, c, decide_false, q3, q4]
theorem gz_divided : Gz 6 r_divided d_divided := by
  intro ws st _ _
  unfold d_divided divP pureF pur
  by_cases h : ∃ a : Lay × Int × Int × Int × Bool × Int, ws = [layW a.1, .int a.2.1, .int a.2.2.1, .int a.2.2.2.1, .str (wayS a.2.2.2.2.1), .int a.2.2.2.2.2] ∧ Sound 19 a.1 ∧ a.2.1 ≤ 1000 ∧ a.2.2.1 ≤ 1000 ∧ a.2.2.2.1 ∈ a.1.panes ∧ a.2.2.2.2.2 ∉ a.1.panes ∧ a.2.2.2.1.natAbs.log2 < 1920
  · rw [dif_pos h]
    have sp := h.choose_spec
    generalize h.choose = a at sp ⊢
    obtain ⟨L, w, k, q, b, new⟩ := a
    obtain ⟨e, s, hw, hk, hq, hn, hz⟩ := sp
    have run := divided_run (w := w) (h := k) (b := b) (st := st) s hw hk hq hn hz
    subst e
    show (match orX (.ok (optW (L.divided w k q b new)) st) with
      | .ok w' st' => ∃ w0 s2 k0, r_divided [layW L, .int w, .int k, .int q, .str (wayS b), .int new] st = .ok w0 (st' ++ s2) ∧ st.length ≤ st'.length ∧ fz st'.length (st' ++ s2) k0 w0 = some w' ∧ (∀ (l : Nat) (o : ML.O), st'[l]? = some o → st[l]? = some o ∨ o.wf st'.length = true)
      | .ex c s => r_divided [layW L, .int w, .int k, .int q, .str (wayS b), .int new] st = .ex c s
      | .no => True)
    cases e : L.divided w k q b new with
    | none => rw [e, orX_none] at run; rw [orX_none]; exact run
    | some M =>
      rw [e, orX_some] at run
      rw [orX_some]
      obtain ⟨k0, z⟩ := (lay_cl M).fzs (n := st.length) (s := st ++ [])
      exact ⟨layW M, [], k0, by rw [List.append_nil]; exact run, Nat.le_refl _, z, fun l o q => .inl q⟩
  · rw [dif_neg h]
    exact True.intro

/-! shifted -/
def r_shifted : List W → Sto → R W := bodyD 8 (sqS (asgS (bn ixW (vr 0) (vr 1)) (gTp 2 (gsC (gNm 4) (gsC (gNm 5) gsN)))) (sqS (asgS (bn ixW (vr 0) (bn addAW (vr 1) (kk (.int 1)))) (gTp 2 (gsC (gNm 6) (gsC (gNm 7) gsN)))) (sqS (setS 3 (clE maxF (axc (bn subW (bn ixW (clE (d_least 20) (axc (vr 4) axn)) (vr 2)) (vr 5)) (axc (clE minF (axc (vr 3) (axc (bn subW (vr 7) (bn ixW (clE (d_least 20) (axc (vr 6) axn)) (vr 2))) axn))) axn)))) (rtS (bn addAW (bn addAW (slE slAF (vr 0) oxn (oxs (vr 1))) (tupE (axc (tupE (axc (vr 4) (axc (bn addAW (vr 5) (vr 3)) axn))) (axc (tupE (axc (vr 6) (axc (bn subW (vr 7) (vr 3)) axn))) axn)))) (slE slAF (vr 0) (oxs (bn addAW (vr 1) (kk (.int 2)))) oxn))))))
theorem parts_injS : ∀ {a b : List Part}, a.map partW = b.map partW → a = b
  | [], [], _ => rfl
  | [], _ :: _, h => by cases h
  | _ :: _, [], h => by cases h
  | x :: a, y :: b, h => by
    simp only [List.map_cons, List.cons.injEq] at h
    have h1 := h.1
    simp only [partW, W.tup.injEq, List.cons.injEq, W.int.injEq] at h1
    obtain ⟨x1, x2⟩ := x
    obtain ⟨y1, y2⟩ := y
    have h3 : x1 = y1 := lay_inj h1.1
    have h4 : x2 = y2 := h1.2.1
    rw [parts_injS h.2, h3, h4]
def d_shifted : List W → Sto → R W := pureF (fun a : (List Part × Part × Part × List Part) × Bool × Int => [.tup ((a.1.1 ++ a.1.2.1 :: a.1.2.2.1 :: a.1.2.2.2).map partW), .int (a.1.1.length : Int), .int (if a.2.1 then 1 else 0), .int a.2.2])
  (fun a => a.1.1.length + a.1.2.2.2.length ≤ 1000 ∧ Good 20 a.1.2.1.1 ∧ Good 20 a.1.2.2.1.1)
  (fun a => .tup ((a.1.1 ++ (a.1.2.1.1, a.1.2.1.2 + chg a.2.1 a.1.2.1 a.1.2.2.1 a.2.2) :: (a.1.2.2.1.1, a.1.2.2.1.2 - chg a.2.1 a.1.2.1 a.1.2.2.1 a.2.2) :: a.1.2.2.2).map partW))
theorem shifted_enc {a b : (List Part × Part × Part × List Part) × Bool × Int} (e : [W.tup ((a.1.1 ++ a.1.2.1 :: a.1.2.2.1 :: a.1.2.2.2).map partW), W.int (a.1.1.length : Int), W.int (if a.2.1 then 1 else 0), W.int a.2.2] =
    [W.tup ((b.1.1 ++ b.1.2.1 :: b.1.2.2.1 :: b.1.2.2.2).map partW), W.int (b.1.1.length : Int), W.int (if b.2.1 then 1 else 0), W.int b.2.2]) : a = b := by
  obtain ⟨⟨a1, a2, a3, a4⟩, a5, a6⟩ := a
  obtain ⟨⟨b1, b2, b3, b4⟩, b5, b6⟩ := b
  simp only [List.cons.injEq, W.tup.injEq, W.int.injEq, and_true] at e
  have h1 := parts_injS e.1
  have h2 : a1.length = b1.length := by omega
  obtain ⟨h3, h4⟩ := List.append_inj h1 h2
  injection h4 with h5 h6
  injection h6 with h7 h8
  have h9 : a5 = b5 := by
    have := e.2.2.1
    cases a5 <;> cases b5 <;> first | rfl | (simp at this)
  rw [h3, h5, h7, h8, h9, e.2.2.2]
theorem shifted_ok {A C : List Part} {x y : Part} {b : Bool} {m : Int} {st : Sto} (h : A.length + C.length ≤ 1000) (gx : Good 20 x.1) (gy : Good 20 y.1) :
    d_shifted [.tup ((A ++ x :: y :: C).map partW), .int (A.length : Int), .int (if b then 1 else 0), .int m] st = .ok (.tup ((A ++ (x.1, x.2 + chg b x y m) :: (y.1, y.2 - chg b x y m) :: C).map partW)) st :=
  pureF_ok (fun a b e => shifted_enc e) (a := ((A, x, y, C), b, m)) ⟨h, gx, gy⟩
theorem gz_shifted : Gz 4 r_shifted d_shifted := by
  refine gz_pureF0 (fun a _ => .tup (Cl.map part_cl)) fun ⟨⟨A, x, y, C⟩, b, m⟩ st ⟨hl, gx, gy⟩ => ⟨[], ?_⟩
  have hl : A.length + C.length ≤ 1000 := hl
  have gx : Good 20 x.1 := gx
  have gy : Good 20 y.1 := gy
  show r_shifted [.tup ((A ++ x :: y :: C).map partW), .int (A.length : Int), .int (if b then 1 else 0), .int m] st = .ok (.tup ((A ++ (x.1, x.2 + chg b x y m) :: (y.1, y.2 - chg b x y m) :: C).map partW)) (st ++ [])
  rw [List.append_nil]
  have a1 : ixW (.tup ((A ++ x :: y :: C).map partW)) (.int (A.length : Int)) st = .ok (partW x) st := ixW_lst (seqOf_tup ..) (by rw [List.map_append]; exact atI_app partW A _ _)
  have a2 : ixW (.tup ((A ++ x :: y :: C).map partW)) (.int ((A.length : Int) + 1)) st = .ok (partW y) st := by
    have e : A ++ x :: y :: C = (A ++ [x]) ++ y :: C := by simp
    rw [e]
    have : ixW (.tup (((A ++ [x]) ++ y :: C).map partW)) (.int ((A ++ [x]).length : Int)) st = .ok (partW y) st := ixW_lst (seqOf_tup ..) (by rw [List.map_append]; exact atI_app partW (A ++ [x]) _ _)
    rw [List.length_append] at this
    exact this
  have sl1 : slAF (.tup ((A ++ x :: y :: C).map partW)) none (some (A.length : Int)) st = .ok (.tup (A.map partW)) st := by
    rw [slA_tup, cutL_to]; simp
  have sl2 : slAF (.tup ((A ++ x :: y :: C).map partW)) (some ((A.length : Int) + 2)) none st = .ok (.tup (C.map partW)) st := by
    have := cutL_from ((A ++ x :: y :: C).map partW) (A.length + 2)
    rw [show ((A.length + 2 : Nat) : Int) = (A.length : Int) + 2 by omega] at this
    rw [slA_tup, this, ← List.map_drop, ← List.drop_drop, List.drop_left]; rfl
  have lx := least_ok (st := st) gx
  have ly := least_ok (st := st) gy
  have li : ∀ (m : Int × Int) s, ixW (lowW m) (.int (if b then 1 else 0)) s = .ok (.int (ax b m)) s := fun m s => by cases b <;> rfl
  have ai : ∀ (i j : Int) s, addAW (.int i) (.int j) s = .ok (.int (i + j)) s := fun _ _ _ => rfl
  have ch : max (ax b x.1.low - x.2) (min m (y.2 - ax b y.1.low)) = chg b x y m := by unfold chg; rw [Int.min_comm]
  have p1 : ∀ u v : Part, addAW (.tup (A.map partW)) (.tup [.tup [layW u.1, .int u.2], .tup [layW v.1, .int v.2]]) st = .ok (.tup ((A ++ [u, v]).map partW)) st := fun u v => by rw [addA_tup (by simp; omega), List.map_append]; rfl
  have p2 : ∀ u v : Part, addAW (.tup ((A ++ [u, v]).map partW)) (.tup (C.map partW)) st = .ok (.tup ((A ++ u :: v :: C).map partW)) st := fun u v => by rw [addA_tup (by simp; omega), ← List.map_append]; simp
  have p1' := p1 (x.1, x.2 + chg b x y m) (y.1, y.2 - chg b x y m)
  have p2' := p2 (x.1, x.2 + chg b x y m) (y.1, y.2 - chg b x y m)
  simp only at p1'
  unfold r_shifted
  simp only [bodyD, pad, sqS, ifS, orB, andB, notB, tb, bn, un, vr, kk, rtS, rnS, exS, orE, andE, chn, ifE, trB, passS, noS, setS, asgS, parS, axc, axn, flE, lsE, tupE, clE, mthE, mkE, lmE, forS, sqI, rg1, rg2, gSb, gFd, setFS, augFS, gNm, gTp, gsC, gsN, augS, augI, bkS, ctS, whS, slE, oxn, oxs, lpS, List.map_cons, List.map_nil, List.length_cons, List.length_nil, List.replicate, List.cons_append, List.nil_append, Nat.reduceAdd, Nat.reduceSub, List.getElem?_cons_succ, List.getElem?_cons_zero, List.set_cons_zero, List.set_cons_succ, R.toS_ok, R.bind_ok, R.toS_ite, R.bind_ite, SR.go_nx, SR.go_rt, SR.go_bk, SR.go_ct, SR.go_ite, SR.lp_nx, SR.lp_rt, SR.lp_bk, SR.lp_ct, SR.lp_ite, fin_nx, fin_rt, fin_ite, W.cb_bl, if_true, if_false, Bool.false_eq_true, eq_int, ne_int, eq_bl, ne_bl, mx2, mn2, int0, notW, truW, fdiv_ok, mod_ok, mul_okl, add_int, neg_int, int_bl, int_int, listLF_fl, listF_fl, listF_tup, listLF_tup, Int.reduceLT, Int.reduceLE, Int.reduceNeg, decide_true, decide_false, nxS, nxA, nxE, R.nox_ok, R.nox_ite, SR.nox_nx, SR.nox_rt, SR.nox_ite, R.bind_ex, R.toS_ex, SR.go_ex, fin_ex, a1, ai, a2, partW, lx, ly, li, ch, sl1, sl2, p1', p2']

def d_with_border (n : Nat) : List W → Sto → R W := pureF (fun a : Lay × Int × Bool × Int => [layW a.1, .int a.2.1, .str (wayS a.2.2.1), .int a.2.2.2]) (fun a => Good n a.1 ∧ n ≤ 20 ∧ a.1.panes.Nodup) (fun a => optW (a.1.shift a.2.1 a.2.2.1 a.2.2.2))

def b_with_border_0 (slf : List W → Sto → R W) : Sx := (ifS (tb (bn inW (vr 1) (clE (d_panes 20) (axc (vr 6) axn)))) (sqS (setS 8 (clE slf (axc (vr 6) (axc (vr 1) (axc (vr 2) (axc (vr 3) axn)))))) (sqS (ifS (tb (un nonW (vr 8))) (rtS (tupE (axc (bn ixW (vr 0) (kk (.int 0))) (axc (bn addAW (bn addAW (slE slAF (vr 4) oxn (oxs (vr 5))) (tupE (axc (tupE (axc (vr 8) (axc (vr 7) axn))) axn))) (slE slAF (vr 4) (oxs (bn addAW (vr 5) (kk (.int 1)))) oxn)) axn)))) passS) (ifS (andB (tb (bn eqW (bn ixW (vr 0) (kk (.int 0))) (vr 2))) (tb (bn ltW (bn addAW (vr 5) (kk (.int 1))) (clE lenF (axc (vr 4) axn))))) (rtS (tupE (axc (vr 2) (axc (clE d_shifted (axc (vr 4) (axc (vr 5) (axc (clE d_axis_of (axc (vr 2) axn)) (axc (vr 3) axn))))) axn)))) passS))) passS)
/-! with_border -/
def r_with_border : Nat → List W → Sto → R W
  | 0 => bodyD 9 noS
  | n + 1 => bodyD 9 (sqS (ifS (trB (un (isiW .int) (vr 0))) (rtS (kk .non)) passS) (sqS (setS 4 (bn ixW (vr 0) (kk (.int 1)))) (sqS (forS (enJ (axc (vr 4) axn)) (gTp 2 (gsC (gNm 5) (gsC (gTp 2 (gsC (gNm 6) (gsC (gNm 7) gsN))) gsN))) (b_with_border_0 (d_with_border n))) (rtS (kk .non)))))
theorem with_border_ok {n : Nat} {L : Lay} {q a : Int} {way : Bool} {st : Sto} (g : Good n L) (hn : n ≤ 20) (nd : L.panes.Nodup) : d_with_border n [layW L, .int q, .str (wayS way), .int a] st = .ok (optW (L.shift q way a)) st :=
  pureF_ok (fun a b e => shift_enc e) (a := (L, q, way, a)) ⟨g, hn, nd⟩
theorem cut_atB {A C : List Part} {x : Part} : cutL ((A ++ x :: C).map partW) none (some (A.length : Int)) = A.map partW := by
  rw [cutL_to]; simp
theorem cut_behindB {A C : List Part} {x : Part} : cutL ((A ++ x :: C).map partW) (some ((A.length : Int) + 1)) none = C.map partW := by
  have := cutL_from ((A ++ x :: C).map partW) (A.length + 1)
  rw [show ((A.length + 1 : Nat) : Int) = (A.length : Int) + 1 by omega] at this
  rw [this, ← List.map_drop]
  congr 1
  rw [← List.drop_drop, List.drop_left]; rfl
theorem with_border_skip {n : Nat} (hn : n ≤ 20) (X P : W) (q a : Int) (way : Bool) (st : Sto) : ∀ (xs : List Part) (k : Nat) (o5 o6 o7 o8 : Option W), (∀ y ∈ xs, Good n y.1 ∧ q ∉ y.1.panes) →
    ∃ p5 p6 p7, forL (gTp 2 (gsC (gNm 5) (gsC (gTp 2 (gsC (gNm 6) (gsC (gNm 7) gsN))) gsN))) (b_with_border_0 (d_with_border n)) ((xs.zipIdx k).map fun p => enG p.2 (partW p.1)) [some X, some (.int q), some (.str (wayS way)), some (.int a), some P, o5, o6, o7, o8] st =
      .nx [some X, some (.int q), some (.str (wayS way)), some (.int a), some P, p5, p6, p7, o8] st
  | [], k, o5, o6, o7, o8, _ => ⟨o5, o6, o7, rfl⟩
  | x :: C, k, o5, o6, o7, o8, h => by
    obtain ⟨g, hx⟩ := h x (by simp)
    have pn := panes_ok (st := st) (g.mono hn)
    have inp : inW (.int q) (.fl (x.1.panes.map W.int)) st = .ok (.bl (decide (q ∈ x.1.panes))) st := in_panes q _ st
    have eq : decide (q ∈ x.1.panes) = false := by simpa using hx
    obtain ⟨p5, p6, p7, ih⟩ := with_border_skip hn X P q a way st C (k + 1) (some (.int (k : Int))) (some (layW x.1)) (some (.int x.2)) o8 fun y hy => h y (by simp [hy])
    have hb : b_with_border_0 (d_with_border n) [some X, some (.int q), some (.str (wayS way)), some (.int a), some P, some (.int (k : Int)), some (layW x.1), some (.int x.2), o8] st =
        .nx [some X, some (.int q), some (.str (wayS way)), some (.int a), some P, some (.int (k : Int)), some (layW x.1), some (.int x.2), o8] st := by
      unfold b_with_border_0
      simp only [bodyD, pad, sqS, ifS, orB, andB, notB, tb, bn, un, vr, kk, rtS, rnS, exS, orE, andE, chn, ifE, trB, passS, noS, setS, asgS, parS, axc, axn, flE, lsE, tupE, clE, mthE, mkE, lmE, forS, sqI, rg1, rg2, gSb, gFd, setFS, augFS, gNm, gTp, gsC, gsN, augS, augI, bkS, ctS, whS, slE, oxn, oxs, lpS, List.map_cons, List.map_nil, List.length_cons, List.length_nil, List.replicate, List.cons_append, List.nil_append, Nat.reduceAdd, Nat.reduceSub, List.getElem?_cons_succ, List.getElem?_cons_zero, List.set_cons_zero, List.set_cons_succ, R.toS_ok, R.bind_ok, R.toS_ite, R.bind_ite, SR.go_nx, SR.go_rt, SR.go_bk, SR.go_ct, SR.go_ite, SR.lp_nx, SR.lp_rt, SR.lp_bk, SR.lp_ct, SR.lp_ite, fin_nx, fin_rt, fin_ite, W.cb_bl, if_true, if_false, Bool.false_eq_true, eq_int, ne_int, eq_bl, ne_bl, mx2, mn2, int0, notW, truW, fdiv_ok, mod_ok, mul_okl, add_int, neg_int, int_bl, int_int, listLF_fl, listF_fl, listF_tup, listLF_tup, Int.reduceLT, Int.reduceLE, Int.reduceNeg, decide_true, decide_false, nxS, nxA, nxE, R.nox_ok, R.nox_ite, SR.nox_nx, SR.nox_rt, SR.nox_ite, R.bind_ex, R.toS_ex, SR.go_ex, fin_ex, pn, inp, eq]
    refine ⟨p5, p6, p7, ?_⟩
    rw [List.zipIdx_cons, List.map_cons]
    unfold forL
    simp only [bodyD, pad, sqS, ifS, orB, andB, notB, tb, bn, un, vr, kk, rtS, rnS, exS, orE, andE, chn, ifE, trB, passS, noS, setS, asgS, parS, axc, axn, flE, lsE, tupE, clE, mthE, mkE, lmE, forS, sqI, rg1, rg2, gSb, gFd, setFS, augFS, gNm, gTp, gsC, gsN, augS, augI, bkS, ctS, whS, slE, oxn, oxs, lpS, List.map_cons, List.map_nil, List.length_cons, List.length_nil, List.replicate, List.cons_append, List.nil_append, Nat.reduceAdd, Nat.reduceSub, List.getElem?_cons_succ, List.getElem?_cons_zero, List.set_cons_zero, List.set_cons_succ, R.toS_ok, R.bind_ok, R.toS_ite, R.bind_ite, SR.go_nx, SR.go_rt, SR.go_bk, SR.go_ct, SR.go_ite, SR.lp_nx, SR.lp_rt, SR.lp_bk, SR.lp_ct, SR.lp_ite, fin_nx, fin_rt, fin_ite, W.cb_bl, if_true, if_false, Bool.false_eq_true, eq_int, ne_int, eq_bl, ne_bl, mx2, mn2, int0, notW, truW, fdiv_ok, mod_ok, mul_okl, add_int, neg_int, int_bl, int_int, listLF_fl, listF_fl, listF_tup, listLF_tup, Int.reduceLT, Int.reduceLE, Int.reduceNeg, decide_true, decide_false, nxS, nxA, nxE, R.nox_ok, R.nox_ite, SR.nox_nx, SR.nox_rt, SR.nox_ite, R.bind_ex, R.toS_ex, SR.go_ex, fin_ex, enG, partW]
    rw [hb]
    simp only [bodyD, pad, sqS, ifS, orB, andB, notB, tb, bn, un, vr, kk, rtS, rnS, exS, orE, andE, chn, ifE, trB, passS, noS, setS, asgS, parS, axc, axn, flE, lsE, tupE, clE, mthE, mkE, lmE, forS, sqI, rg1, rg2, gSb, gFd, setFS, augFS, gNm, gTp, gsC, gsN, augS, augI, bkS, ctS, whS, slE, oxn, oxs, lpS, List.map_cons, List.map_nil, List.length_cons, List.length_nil, List.replicate, List.cons_append, List.nil_append, Nat.reduceAdd, Nat.reduceSub, List.getElem?_cons_succ, List.getElem?_cons_zero, List.set_cons_zero, List.set_cons_succ, R.toS_ok, R.bind_ok, R.toS_ite, R.bind_ite, SR.go_nx, SR.go_rt, SR.go_bk, SR.go_ct, SR.go_ite, SR.lp_nx, SR.lp_rt, SR.lp_bk, SR.lp_ct, SR.lp_ite, fin_nx, fin_rt, fin_ite, W.cb_bl, if_true, if_false, Bool.false_eq_true, eq_int, ne_int, eq_bl, ne_bl, mx2, mn2, int0, notW, truW, fdiv_ok, mod_ok, mul_okl, add_int, neg_int, int_bl, int_int, listLF_fl, listF_fl, listF_tup, listLF_tup, Int.reduceLT, Int.reduceLE, Int.reduceNeg, decide_true, decide_false, nxS, nxA, nxE, R.nox_ok, R.nox_ite, SR.nox_nx, SR.nox_rt, SR.nox_ite, R.bind_ex, R.toS_ex, SR.go_ex, fin_ex]
    exact ih
theorem with_border_loop {n : Nat} (hn : n ≤ 20) (b : Bool) (ps : List Part) (X : W) (hX : ∀ s, ixW X (.int 0) s = .ok (.str (wayS b)) s) (q a : Int) (way : Bool) (st : Sto) (hl : ps.length ≤ 100) (hg : ∀ y ∈ ps, Good n y.1 ∧ y.1.panes.Nodup) (nd : (Lay.node b ps).panes.Nodup) :
    ∀ (xs A : List Part) (o5 o6 o7 o8 : Option W), A ++ xs = ps → (∀ y ∈ A, q ∉ y.1.panes) →
    fin ((forL (gTp 2 (gsC (gNm 5) (gsC (gTp 2 (gsC (gNm 6) (gsC (gNm 7) gsN))) gsN))) (b_with_border_0 (d_with_border n)) ((xs.zipIdx A.length).map fun p => enG p.2 (partW p.1)) [some X, some (.int q), some (.str (wayS way)), some (.int a), some (.tup (ps.map partW)), o5, o6, o7, o8] st).go (rtS (kk .non))) = .ok (optW ((Lay.node b ps).shift q way a)) st
  | [], A, o5, o6, o7, o8, hd, hA => by
    rw [List.append_nil] at hd
    subst hd
    rw [shift_none hA]
    rfl
  | x :: C, A, o5, o6, o7, o8, hd, hA => by
    obtain ⟨g, ndx⟩ := hg x (by rw [← hd]; simp)
    have pn := panes_ok (st := st) (g.mono hn)
    have inp : inW (.int q) (.fl (x.1.panes.map W.int)) st = .ok (.bl (decide (q ∈ x.1.panes))) st := in_panes q _ st
    have ih := with_border_loop hn b ps X hX q a way st hl hg nd C (A ++ [x])
    have ai : ∀ (i j : Int) s, addAW (.int i) (.int j) s = .ok (.int (i + j)) s := fun _ _ _ => rfl
    rw [List.zipIdx_cons, List.map_cons]
    unfold forL
    simp only [bodyD, pad, sqS, ifS, orB, andB, notB, tb, bn, un, vr, kk, rtS, rnS, exS, orE, andE, chn, ifE, trB, passS, noS, setS, asgS, parS, axc, axn, flE, lsE, tupE, clE, mthE, mkE, lmE, forS, sqI, rg1, rg2, gSb, gFd, setFS, augFS, gNm, gTp, gsC, gsN, augS, augI, bkS, ctS, whS, slE, oxn, oxs, lpS, List.map_cons, List.map_nil, List.length_cons, List.length_nil, List.replicate, List.cons_append, List.nil_append, Nat.reduceAdd, Nat.reduceSub, List.getElem?_cons_succ, List.getElem?_cons_zero, List.set_cons_zero, List.set_cons_succ, R.toS_ok, R.bind_ok, R.toS_ite, R.bind_ite, SR.go_nx, SR.go_rt, SR.go_bk, SR.go_ct, SR.go_ite, SR.lp_nx, SR.lp_rt, SR.lp_bk, SR.lp_ct, SR.lp_ite, fin_nx, fin_rt, fin_ite, W.cb_bl, if_true, if_false, Bool.false_eq_true, eq_int, ne_int, eq_bl, ne_bl, mx2, mn2, int0, notW, truW, fdiv_ok, mod_ok, mul_okl, add_int, neg_int, int_bl, int_int, listLF_fl, listF_fl, listF_tup, listLF_tup, Int.reduceLT, Int.reduceLE, Int.reduceNeg, decide_true, decide_false, nxS, nxA, nxE, R.nox_ok, R.nox_ite, SR.nox_nx, SR.nox_rt, SR.nox_ite, R.bind_ex, R.toS_ex, SR.go_ex, fin_ex, enG, partW]
    by_cases hx : q ∈ x.1.panes
    · have eq : decide (q ∈ x.1.panes) = true := by simpa using hx
      have sh := shift_at (way := way) (amount := a) (b := b) (C := C) hA hx
      rw [hd] at sh
      rw [sh]
      subst hd
      simp only [List.length_append, List.length_cons] at hl
      have rc := with_border_ok (q := q) (a := a) (way := way) (st := st) g hn ndx
      have hC := (node_rest nd hx).2.1
      have sl1 : slAF (.tup ((A ++ x :: C).map partW)) none (some (A.length : Int)) st = .ok (.tup (A.map partW)) st := by rw [slA_tup, cut_atB]
      have sl2 : slAF (.tup ((A ++ x :: C).map partW)) (some ((A.length : Int) + 1)) none st = .ok (.tup (C.map partW)) st := by rw [slA_tup, cut_behindB]
      cases hs : x.1.shift q way a with
      | some M =>
        rw [hs] at rc
        have nn : nonW (optW (some M)) st = .ok (.bl true) st := lay_nonW M st
        have p1 : addAW (.tup (A.map partW)) (.tup [.tup [optW (some M), .int x.2]]) st = .ok (.tup ((A ++ [(M, x.2)]).map partW)) st := by rw [addA_tup (by simp; omega), List.map_append]; rfl
        have p2 : addAW (.tup ((A ++ [(M, x.2)]).map partW)) (.tup (C.map partW)) st = .ok (.tup ((A ++ (M, x.2) :: C).map partW)) st := by rw [addA_tup (by simp; omega), ← List.map_append]; simp
        unfold b_with_border_0
        simp only [bodyD, pad, sqS, ifS, orB, andB, notB, tb, bn, un, vr, kk, rtS, rnS, exS, orE, andE, chn, ifE, trB, passS, noS, setS, asgS, parS, axc, axn, flE, lsE, tupE, clE, mthE, mkE, lmE, forS, sqI, rg1, rg2, gSb, gFd, setFS, augFS, gNm, gTp, gsC, gsN, augS, augI, bkS, ctS, whS, slE, oxn, oxs, lpS, List.map_cons, List.map_nil, List.length_cons, List.length_nil, List.replicate, List.cons_append, List.nil_append, Nat.reduceAdd, Nat.reduceSub, List.getElem?_cons_succ, List.getElem?_cons_zero, List.set_cons_zero, List.set_cons_succ, R.toS_ok, R.bind_ok, R.toS_ite, R.bind_ite, SR.go_nx, SR.go_rt, SR.go_bk, SR.go_ct, SR.go_ite, SR.lp_nx, SR.lp_rt, SR.lp_bk, SR.lp_ct, SR.lp_ite, fin_nx, fin_rt, fin_ite, W.cb_bl, if_true, if_false, Bool.false_eq_true, eq_int, ne_int, eq_bl, ne_bl, mx2, mn2, int0, notW, truW, fdiv_ok, mod_ok, mul_okl, add_int, neg_int, int_bl, int_int, listLF_fl, listF_fl, listF_tup, listLF_tup, Int.reduceLT, Int.reduceLE, Int.reduceNeg, decide_true, decide_false, nxS, nxA, nxE, R.nox_ok, R.nox_ite, SR.nox_nx, SR.nox_rt, SR.nox_ite, R.bind_ex, R.toS_ex, SR.go_ex, fin_ex, pn, inp, eq, rc, nn, hX, sl1, p1, ai, sl2, p2]
        show _ = R.ok (layW (.node b (A ++ (M, x.2) :: C))) st
        rw [layW_node]
      | none =>
        rw [hs] at rc
        have nn : nonW (optW none) st = .ok (.bl false) st := rfl
        have ln : lenF [.tup ((A ++ x :: C).map partW)] st = .ok (.int ((A ++ x :: C).length : Int)) st := by simp [lenF, seqOf]
        by_cases hb : b = way
        · have eb : (b == way) = true := by simpa using hb
          cases C with
          | nil =>
            have lt : decide ((A.length : Int) + 1 < ((A ++ [x]).length : Int)) = false := by simp
            have e1 : shiftS b way a A x [] none = none := by simp [shiftS]
            unfold b_with_border_0
            simp only [bodyD, pad, sqS, ifS, orB, andB, notB, tb, bn, un, vr, kk, rtS, rnS, exS, orE, andE, chn, ifE, trB, passS, noS, setS, asgS, parS, axc, axn, flE, lsE, tupE, clE, mthE, mkE, lmE, forS, sqI, rg1, rg2, gSb, gFd, setFS, augFS, gNm, gTp, gsC, gsN, augS, augI, bkS, ctS, whS, slE, oxn, oxs, lpS, List.map_cons, List.map_nil, List.length_cons, List.length_nil, List.replicate, List.cons_append, List.nil_append, Nat.reduceAdd, Nat.reduceSub, List.getElem?_cons_succ, List.getElem?_cons_zero, List.set_cons_zero, List.set_cons_succ, R.toS_ok, R.bind_ok, R.toS_ite, R.bind_ite, SR.go_nx, SR.go_rt, SR.go_bk, SR.go_ct, SR.go_ite, SR.lp_nx, SR.lp_rt, SR.lp_bk, SR.lp_ct, SR.lp_ite, fin_nx, fin_rt, fin_ite, W.cb_bl, if_true, if_false, Bool.false_eq_true, eq_int, ne_int, eq_bl, ne_bl, mx2, mn2, int0, notW, truW, fdiv_ok, mod_ok, mul_okl, add_int, neg_int, int_bl, int_int, listLF_fl, listF_fl, listF_tup, listLF_tup, Int.reduceLT, Int.reduceLE, Int.reduceNeg, decide_true, decide_false, nxS, nxA, nxE, R.nox_ok, R.nox_ite, SR.nox_nx, SR.nox_rt, SR.nox_ite, R.bind_ex, R.toS_ex, SR.go_ex, fin_ex, pn, inp, eq, rc, nn, hX, eq_way, eb, ai, ln, lt, e1, List.zipIdx_nil, forL]
            rfl
          | cons y D =>
            have gy := (hg y (by simp)).1.mono hn
            have lt : decide ((A.length : Int) + 1 < ((A ++ x :: y :: D).length : Int)) = true := by simp; omega
            have e1 : shiftS b way a A x (y :: D) none = some (.node b (A ++ (x.1, x.2 + chg way x y a) :: (y.1, y.2 - chg way x y a) :: D)) := by simp [shiftS, hb]
            have ao := axis_of_ok way st
            have so := shifted_ok (A := A) (C := D) (x := x) (y := y) (b := way) (m := a) (st := st) (by simp at hl; omega) (g.mono hn) gy
            unfold b_with_border_0
            simp only [bodyD, pad, sqS, ifS, orB, andB, notB, tb, bn, un, vr, kk, rtS, rnS, exS, orE, andE, chn, ifE, trB, passS, noS, setS, asgS, parS, axc, axn, flE, lsE, tupE, clE, mthE, mkE, lmE, forS, sqI, rg1, rg2, gSb, gFd, setFS, augFS, gNm, gTp, gsC, gsN, augS, augI, bkS, ctS, whS, slE, oxn, oxs, lpS, List.map_cons, List.map_nil, List.length_cons, List.length_nil, List.replicate, List.cons_append, List.nil_append, Nat.reduceAdd, Nat.reduceSub, List.getElem?_cons_succ, List.getElem?_cons_zero, List.set_cons_zero, List.set_cons_succ, R.toS_ok, R.bind_ok, R.toS_ite, R.bind_ite, SR.go_nx, SR.go_rt, SR.go_bk, SR.go_ct, SR.go_ite, SR.lp_nx, SR.lp_rt, SR.lp_bk, SR.lp_ct, SR.lp_ite, fin_nx, fin_rt, fin_ite, W.cb_bl, if_true, if_false, Bool.false_eq_true, eq_int, ne_int, eq_bl, ne_bl, mx2, mn2, int0, notW, truW, fdiv_ok, mod_ok, mul_okl, add_int, neg_int, int_bl, int_int, listLF_fl, listF_fl, listF_tup, listLF_tup, Int.reduceLT, Int.reduceLE, Int.reduceNeg, decide_true, decide_false, nxS, nxA, nxE, R.nox_ok, R.nox_ite, SR.nox_nx, SR.nox_rt, SR.nox_ite, R.bind_ex, R.toS_ex, SR.go_ex, fin_ex, pn, inp, eq, rc, nn, hX, eq_way, eb, ai, ln, lt, e1, ao, so]
            show _ = R.ok (layW (.node b _)) st
            rw [layW_node, hb]
        · have eb : (b == way) = false := by simpa using hb
          have e1 : shiftS b way a A x C none = none := by simp [shiftS, hb]
          have hb2 : b_with_border_0 (d_with_border n) [some X, some (.int q), some (.str (wayS way)), some (.int a), some (.tup ((A ++ x :: C).map partW)), some (.int (A.length : Int)), some (layW x.1), some (.int x.2), o8] st =
              .nx [some X, some (.int q), some (.str (wayS way)), some (.int a), some (.tup ((A ++ x :: C).map partW)), some (.int (A.length : Int)), some (layW x.1), some (.int x.2), some (optW none)] st := by
            unfold b_with_border_0
            simp only [bodyD, pad, sqS, ifS, orB, andB, notB, tb, bn, un, vr, kk, rtS, rnS, exS, orE, andE, chn, ifE, trB, passS, noS, setS, asgS, parS, axc, axn, flE, lsE, tupE, clE, mthE, mkE, lmE, forS, sqI, rg1, rg2, gSb, gFd, setFS, augFS, gNm, gTp, gsC, gsN, augS, augI, bkS, ctS, whS, slE, oxn, oxs, lpS, List.map_cons, List.map_nil, List.length_cons, List.length_nil, List.replicate, List.cons_append, List.nil_append, Nat.reduceAdd, Nat.reduceSub, List.getElem?_cons_succ, List.getElem?_cons_zero, List.set_cons_zero, List.set_cons_succ, R.toS_ok, R.bind_ok, R.toS_ite, R.bind_ite, SR.go_nx, SR.go_rt, SR.go_bk, SR.go_ct, SR.go_ite, SR.lp_nx, SR.lp_rt, SR.lp_bk, SR.lp_ct, SR.lp_ite, fin_nx, fin_rt, fin_ite, W.cb_bl, if_true, if_false, Bool.false_eq_true, eq_int, ne_int, eq_bl, ne_bl, mx2, mn2, int0, notW, truW, fdiv_ok, mod_ok, mul_okl, add_int, neg_int, int_bl, int_int, listLF_fl, listF_fl, listF_tup, listLF_tup, Int.reduceLT, Int.reduceLE, Int.reduceNeg, decide_true, decide_false, nxS, nxA, nxE, R.nox_ok, R.nox_ite, SR.nox_nx, SR.nox_rt, SR.nox_ite, R.bind_ex, R.toS_ex, SR.go_ex, fin_ex, pn, inp, eq, rc, nn, hX, eq_way, eb]
          obtain ⟨p5, p6, p7, sk⟩ := with_border_skip hn X (.tup ((A ++ x :: C).map partW)) q a way st C (A.length + 1) (some (.int (A.length : Int))) (some (layW x.1)) (some (.int x.2)) (some (optW none)) fun y hy => ⟨(hg y (by simp [hy])).1, hC y hy⟩
          rw [hb2, e1]
          simp only [bodyD, pad, sqS, ifS, orB, andB, notB, tb, bn, un, vr, kk, rtS, rnS, exS, orE, andE, chn, ifE, trB, passS, noS, setS, asgS, parS, axc, axn, flE, lsE, tupE, clE, mthE, mkE, lmE, forS, sqI, rg1, rg2, gSb, gFd, setFS, augFS, gNm, gTp, gsC, gsN, augS, augI, bkS, ctS, whS, slE, oxn, oxs, lpS, List.map_cons, List.map_nil, List.length_cons, List.length_nil, List.replicate, List.cons_append, List.nil_append, Nat.reduceAdd, Nat.reduceSub, List.getElem?_cons_succ, List.getElem?_cons_zero, List.set_cons_zero, List.set_cons_succ, R.toS_ok, R.bind_ok, R.toS_ite, R.bind_ite, SR.go_nx, SR.go_rt, SR.go_bk, SR.go_ct, SR.go_ite, SR.lp_nx, SR.lp_rt, SR.lp_bk, SR.lp_ct, SR.lp_ite, fin_nx, fin_rt, fin_ite, W.cb_bl, if_true, if_false, Bool.false_eq_true, eq_int, ne_int, eq_bl, ne_bl, mx2, mn2, int0, notW, truW, fdiv_ok, mod_ok, mul_okl, add_int, neg_int, int_bl, int_int, listLF_fl, listF_fl, listF_tup, listLF_tup, Int.reduceLT, Int.reduceLE, Int.reduceNeg, decide_true, decide_false, nxS, nxA, nxE, R.nox_ok, R.nox_ite, SR.nox_nx, SR.nox_rt, SR.nox_ite, R.bind_ex, R.toS_ex, SR.go_ex, fin_ex]
          have sk' : forL (gTp 2 (gsC (gNm 5) (gsC (gTp 2 (gsC (gNm 6) (gsC (gNm 7) gsN))) gsN))) (b_with_border_0 (d_with_border n)) ((C.zipIdx (A.length + 1)).map fun p => W.tup [.int (p.2 : Int), .tup [layW p.1.1, .int p.1.2]]) [some X, some (.int q), some (.str (wayS way)), some (.int a), some (.tup ((A ++ x :: C).map partW)), some (.int (A.length : Int)), some (layW x.1), some (.int x.2), some (optW none)] st = _ := sk
          rw [sk']
          rfl
    · have eq : decide (q ∈ x.1.panes) = false := by simpa using hx
      have hb : b_with_border_0 (d_with_border n) [some X, some (.int q), some (.str (wayS way)), some (.int a), some (.tup (ps.map partW)), some (.int (A.length : Int)), some (layW x.1), some (.int x.2), o8] st =
          .nx [some X, some (.int q), some (.str (wayS way)), some (.int a), some (.tup (ps.map partW)), some (.int (A.length : Int)), some (layW x.1), some (.int x.2), o8] st := by
        unfold b_with_border_0
        simp only [bodyD, pad, sqS, ifS, orB, andB, notB, tb, bn, un, vr, kk, rtS, rnS, exS, orE, andE, chn, ifE, trB, passS, noS, setS, asgS, parS, axc, axn, flE, lsE, tupE, clE, mthE, mkE, lmE, forS, sqI, rg1, rg2, gSb, gFd, setFS, augFS, gNm, gTp, gsC, gsN, augS, augI, bkS, ctS, whS, slE, oxn, oxs, lpS, List.map_cons, List.map_nil, List.length_cons, List.length_nil, List.replicate, List.cons_append, List.nil_append, Nat.reduceAdd, Nat.reduceSub, List.getElem?_cons_succ, List.getElem?_cons_zero, List.set_cons_zero, List.set_cons_succ, R.toS_ok, R.bind_ok, R.toS_ite, R.bind_ite, SR.go_nx, SR.go_rt, SR.go_bk, SR.go_ct, SR.go_ite, SR.lp_nx, SR.lp_rt, SR.lp_bk, SR.lp_ct, SR.lp_ite, fin_nx, fin_rt, fin_ite, W.cb_bl, if_true, if_false, Bool.false_eq_true, eq_int, ne_int, eq_bl, ne_bl, mx2, mn2, int0, notW, truW, fdiv_ok, mod_ok, mul_okl, add_int, neg_int, int_bl, int_int, listLF_fl, listF_fl, listF_tup, listLF_tup, Int.reduceLT, Int.reduceLE, Int.reduceNeg, decide_true, decide_false, nxS, nxA, nxE, R.nox_ok, R.nox_ite, SR.nox_nx, SR.nox_rt, SR.nox_ite, R.bind_ex, R.toS_ex, SR.go_ex, fin_ex, pn, inp, eq]
      rw [hb]
      simp only [bodyD, pad, sqS, ifS, orB, andB, notB, tb, bn, un, vr, kk, rtS, rnS, exS, orE, andE, chn, ifE, trB, passS, noS, setS, asgS, parS, axc, axn, flE, lsE, tupE, clE, mthE, mkE, lmE, forS, sqI, rg1, rg2, gSb, gFd, setFS, augFS, gNm, gTp, gsC, gsN, augS, augI, bkS, ctS, whS, slE, oxn, oxs, lpS, List.map_cons, List.map_nil, List.length_cons, List.length_nil, List.replicate, List.cons_append, List.nil_append, Nat.reduceAdd, Nat.reduceSub, List.getElem?_cons_succ, List.getElem?_cons_zero, List.set_cons_zero, List.set_cons_succ, R.toS_ok, R.bind_ok, R.toS_ite, R.bind_ite, SR.go_nx, SR.go_rt, SR.go_bk, SR.go_ct, SR.go_ite, SR.lp_nx, SR.lp_rt, SR.lp_bk, SR.lp_ct, SR.lp_ite, fin_nx, fin_rt, fin_ite, W.cb_bl, if_true, if_false, Bool.false_eq_true, eq_int, ne_int, eq_bl, ne_bl, mx2, mn2, int0, notW, truW, fdiv_ok, mod_ok, mul_okl, add_int, neg_int, int_bl, int_int, listLF_fl, listF_fl, listF_tup, listLF_tup, Int.reduceLT, Int.reduceLE, Int.reduceNeg, decide_true, decide_false, nxS, nxA, nxE, R.nox_ok, R.nox_ite, SR.nox_nx, SR.nox_rt, SR.nox_ite, R.bind_ex, R.toS_ex, SR.go_ex, fin_ex]
      have := ih (some (.int (A.length : Int))) (some (layW x.1)) (some (.int x.2)) o8 (by rw [← hd]; simp) (fun y hy => by
        rcases List.mem_append.mp hy with h | h
        · exact hA y h
        · rw [List.mem_singleton.mp h]; exact hx)
      rw [List.length_append] at this
      exact this
theorem gz_with_border (n : Nat) : Gz 4 (r_with_border n) (d_with_border n) := by
  refine gz_pureF0 (fun a _ => optW_cl _) fun ⟨L, q, way, a⟩ st ⟨g, hn, nd⟩ => ⟨[], ?_⟩
  have g : Good n L := g
  have nd : L.panes.Nodup := nd
  show r_with_border n [layW L, .int q, .str (wayS way), .int a] st = .ok (optW (L.shift q way a)) (st ++ [])
  rw [List.append_nil]
  cases n with
  | zero => exact g.zero.elim
  | succ n =>
    cases L with
    | pane p =>
      have ct : isiW .int (.int p) st = .ok (.bl true) st := rfl
      rw [shift_pane, layW_pane]
      unfold r_with_border
      simp only [bodyD, pad, sqS, ifS, orB, andB, notB, tb, bn, un, vr, kk, rtS, rnS, exS, orE, andE, chn, ifE, trB, passS, noS, setS, asgS, parS, axc, axn, flE, lsE, tupE, clE, mthE, mkE, lmE, forS, sqI, rg1, rg2, gSb, gFd, setFS, augFS, gNm, gTp, gsC, gsN, augS, augI, bkS, ctS, whS, slE, oxn, oxs, lpS, List.map_cons, List.map_nil, List.length_cons, List.length_nil, List.replicate, List.cons_append, List.nil_append, Nat.reduceAdd, Nat.reduceSub, List.getElem?_cons_succ, List.getElem?_cons_zero, List.set_cons_zero, List.set_cons_succ, R.toS_ok, R.bind_ok, R.toS_ite, R.bind_ite, SR.go_nx, SR.go_rt, SR.go_bk, SR.go_ct, SR.go_ite, SR.lp_nx, SR.lp_rt, SR.lp_bk, SR.lp_ct, SR.lp_ite, fin_nx, fin_rt, fin_ite, W.cb_bl, if_true, if_false, Bool.false_eq_true, eq_int, ne_int, eq_bl, ne_bl, mx2, mn2, int0, notW, truW, fdiv_ok, mod_ok, mul_okl, add_int, neg_int, int_bl, int_int, listLF_fl, listF_fl, listF_tup, listLF_tup, Int.reduceLT, Int.reduceLE, Int.reduceNeg, decide_true, decide_false, nxS, nxA, nxE, R.nox_ok, R.nox_ite, SR.nox_nx, SR.nox_rt, SR.nox_ite, R.bind_ex, R.toS_ex, SR.go_ex, fin_ex, ct]
      rfl
    | node b ps =>
      have hg : ∀ y ∈ ps, Good n y.1 ∧ y.1.panes.Nodup := fun y hy => ⟨g.mem hy, by
        obtain ⟨E, F, rfl⟩ := List.append_of_mem hy
        rw [panes_node, List.flatMap_append, List.flatMap_cons] at nd
        exact (List.nodup_append.mp (List.nodup_append.mp nd).2.1).1⟩
      have hX : ∀ s, ixW (layW (.node b ps)) (.int 0) s = .ok (.str (wayS b)) s := fun s => by rw [layW_node]; rfl
      have hX1 : ∀ s, ixW (layW (.node b ps)) (.int 1) s = .ok (.tup (ps.map partW)) s := fun s => by rw [layW_node]; rfl
      have ct : isiW .int (layW (.node b ps)) st = .ok (.bl false) st := by rw [layW_node]; rfl
      have lp := with_border_loop (n := n) (by omega) b ps (layW (.node b ps)) hX q a way st g.len hg nd ps [] none none none none rfl (fun y hy => by cases hy)
      have ej : ∀ (a0 a1 a2 a3 a5 a6 a7 a8 : Option W) s, enJ (axc (vr 4) axn) [a0, a1, a2, a3, some (.tup (ps.map partW)), a5, a6, a7, a8] s = .ok (.st (ps.zipIdx.map fun p => enG p.2 (partW p.1))) s := by
        intros
        rename_i s
        refine (enJ_tup (xs := ps.map partW) (st := s) (by simp only [bodyD, pad, sqS, ifS, orB, andB, notB, tb, bn, un, vr, kk, rtS, rnS, exS, orE, andE, chn, ifE, trB, passS, noS, setS, asgS, parS, axc, axn, flE, lsE, tupE, clE, mthE, mkE, lmE, forS, sqI, rg1, rg2, gSb, gFd, setFS, augFS, gNm, gTp, gsC, gsN, augS, augI, bkS, ctS, whS, slE, oxn, oxs, lpS, List.map_cons, List.map_nil, List.length_cons, List.length_nil, List.replicate, List.cons_append, List.nil_append, Nat.reduceAdd, Nat.reduceSub, List.getElem?_cons_succ, List.getElem?_cons_zero, List.set_cons_zero, List.set_cons_succ, R.toS_ok, R.bind_ok, R.toS_ite, R.bind_ite, SR.go_nx, SR.go_rt, SR.go_bk, SR.go_ct, SR.go_ite, SR.lp_nx, SR.lp_rt, SR.lp_bk, SR.lp_ct, SR.lp_ite, fin_nx, fin_rt, fin_ite, W.cb_bl, if_true, if_false, Bool.false_eq_true, eq_int, ne_int, eq_bl, ne_bl, mx2, mn2, int0, notW, truW, fdiv_ok, mod_ok, mul_okl, add_int, neg_int, int_bl, int_int, listLF_fl, listF_fl, listF_tup, listLF_tup, Int.reduceLT, Int.reduceLE, Int.reduceNeg, decide_true, decide_false, nxS, nxA, nxE, R.nox_ok, R.nox_ite, SR.nox_nx, SR.nox_rt, SR.nox_ite, R.bind_ex, R.toS_ex, SR.go_ex, fin_ex])).trans ?_
        rw [List.zipIdx_map, List.map_map]; rfl
      unfold r_with_border
      simp only [bodyD, pad, sqS, ifS, orB, andB, notB, tb, bn, un, vr, kk, rtS, rnS, exS, orE, andE, chn, ifE, trB, passS, noS, setS, asgS, parS, axc, axn, flE, lsE, tupE, clE, mthE, mkE, lmE, forS, sqI, rg1, rg2, gSb, gFd, setFS, augFS, gNm, gTp, gsC, gsN, augS, augI, bkS, ctS, whS, slE, oxn, oxs, lpS, List.map_cons, List.map_nil, List.length_cons, List.length_nil, List.replicate, List.cons_append, List.nil_append, Nat.reduceAdd, Nat.reduceSub, List.getElem?_cons_succ, List.getElem?_cons_zero, List.set_cons_zero, List.set_cons_succ, R.toS_ok, R.bind_ok, R.toS_ite, R.bind_ite, SR.go_nx, SR.go_rt, SR.go_bk, SR.go_ct, SR.go_ite, SR.lp_nx, SR.lp_rt, SR.lp_bk, SR.lp_ct, SR.lp_ite, fin_nx, fin_rt, fin_ite, W.cb_bl, if_true, if_false, Bool.false_eq_true, eq_int, ne_int, eq_bl, ne_bl, mx2, mn2, int0, notW, truW, fdiv_ok, mod_ok, mul_okl, add_int, neg_int, int_bl, int_int, listLF_fl, listF_fl, listF_tup, listLF_tup, Int.reduceLT, Int.reduceLE, Int.reduceNeg, decide_true, decide_false, nxS, nxA, nxE, R.nox_ok, R.nox_ite, SR.nox_nx, SR.nox_rt, SR.nox_ite, R.bind_ex, R.toS_ex, SR.go_ex, fin_ex, ct, hX1, ej]
      exact lp

/-! moved -/
def r_moved : List W → Sto → R W := bodyD 7 (sqS (setS 0 (clE (d_fitted 20) (axc (vr 0) (axc (vr 1) (axc (vr 2) axn))))) (sqS (setS 6 (clE (d_with_border 20) (axc (vr 0) (axc (vr 3) (axc (vr 4) (axc (vr 5) axn)))))) (rtS (ifE (tb (un isnW (vr 6))) (vr 0) (clE (d_fitted 20) (axc (vr 6) (axc (vr 1) (axc (vr 2) axn))))))))
def d_moved : List W → Sto → R W := pureF (fun a : Lay × Int × Int × Int × Bool × Int => [layW a.1, .int a.2.1, .int a.2.2.1, .int a.2.2.2.1, .str (wayS a.2.2.2.2.1), .int a.2.2.2.2.2])
  (fun a => Sound 20 a.1 ∧ a.2.1 ≤ 1000 ∧ a.2.2.1 ≤ 1000) (fun a => layW (a.1.moved a.2.1 a.2.2.1 a.2.2.2.1 a.2.2.2.2.1 a.2.2.2.2.2))
theorem moved_ok {L : Lay} {w h q a : Int} {b : Bool} {st : Sto} (g : Sound 20 L) (hw : w ≤ 1000) (hh : h ≤ 1000) : d_moved [layW L, .int w, .int h, .int q, .str (wayS b), .int a] st = .ok (layW (L.moved w h q b a)) st :=
  pureF_ok (fun a b e => moved_enc e) (a := (L, w, h, q, b, a)) ⟨g, hw, hh⟩
theorem gz_moved : Gz 6 r_moved d_moved := by
  refine gz_pureF0 (fun a _ => lay_cl _) fun ⟨L, w, h, q, b, a⟩ st ⟨s, hw, hh⟩ => ⟨[], ?_⟩
  have s : Sound 20 L := s
  have hw : w ≤ 1000 := hw
  have hh : h ≤ 1000 := hh
  show r_moved [layW L, .int w, .int h, .int q, .str (wayS b), .int a] st = .ok (layW (L.moved w h q b a)) (st ++ [])
  rw [List.append_nil]
  have q2 := fitted_ok (w := w) (h := h) (st := st) (s.good (n := 20) (by omega) (by omega)) (by omega)
  have f := s.fit (by omega) hw hh
  have gf : Good 20 (L.fit w h) := f.good (by omega) (by omega)
  have q3 := with_border_ok (q := q) (way := b) (a := a) (st := st) gf (by omega) f.nd
  obtain ⟨o, bg⟩ := s.fitOk (by omega) hw hh
  obtain ⟨t, _⟩ := f.shift o (by omega) (by omega) bg (q := q) (way := b) (a := a)
  unfold r_moved Lay.moved
  cases e : (L.fit w h).shift q b a with
  | none =>
    rw [e] at q3
    have nn : isnW (optW none) st = .ok (.bl true) st := rfl
    rw [Option.getD_none, fit_idem (by omega) s.ok (by have := s.ln; omega)]
    simp only [bodyD, pad, sqS, ifS, orB, andB, notB, tb, bn, un, vr, kk, rtS, rnS, exS, orE, andE, chn, ifE, trB, passS, noS, setS, asgS, parS, axc, axn, flE, lsE, tupE, clE, mthE, mkE, lmE, forS, sqI, rg1, rg2, gSb, gFd, setFS, augFS, gNm, gTp, gsC, gsN, augS, augI, bkS, ctS, whS, slE, oxn, oxs, lpS, List.map_cons, List.map_nil, List.length_cons, List.length_nil, List.replicate, List.cons_append, List.nil_append, Nat.reduceAdd, Nat.reduceSub, List.getElem?_cons_succ, List.getElem?_cons_zero, List.set_cons_zero, List.set_cons_succ, R.toS_ok, R.bind_ok, R.toS_ite, R.bind_ite, SR.go_nx, SR.go_rt, SR.go_bk, SR.go_ct, SR.go_ite, SR.lp_nx, SR.lp_rt, SR.lp_bk, SR.lp_ct, SR.lp_ite, fin_nx, fin_rt, fin_ite, W.cb_bl, if_true, if_false, Bool.false_eq_true, eq_int, ne_int, eq_bl, ne_bl, mx2, mn2, int0, notW, truW, fdiv_ok, mod_ok, mul_okl, add_int, neg_int, int_bl, int_int, listLF_fl, listF_fl, listF_tup, listLF_tup, Int.reduceLT, Int.reduceLE, Int.reduceNeg, decide_true, decide_false, nxS, nxA, nxE, R.nox_ok, R.nox_ite, SR.nox_nx, SR.nox_rt, SR.nox_ite, R.bind_ex, R.toS_ex, SR.go_ex, fin_ex, q2, q3, nn]
  | some M =>
    rw [e] at q3 t
    have nn : isnW (optW (some M)) st = .ok (.bl false) st := by
      show isnW (layW M) st = _
      cases M with
      | pane p => rw [layW_pane]; rfl
      | node b ps => rw [layW_node]; rfl
    have q4 := fitted_ok (w := w) (h := h) (st := st) (t.good (n := 20) (by omega) (by omega)) (by omega)
    have q5 : d_fitted 20 [optW (some M), .int w, .int h] st = .ok (layW (M.fit w h)) st := q4
    simp only [bodyD, pad, sqS, ifS, orB, andB, notB, tb, bn, un, vr, kk, rtS, rnS, exS, orE, andE, chn, ifE, trB, passS, noS, setS, asgS, parS, axc, axn, flE, lsE, tupE, clE, mthE, mkE, lmE, forS, sqI, rg1, rg2, gSb, gFd, setFS, augFS, gNm, gTp, gsC, gsN, augS, augI, bkS, ctS, whS, slE, oxn, oxs, lpS, List.map_cons, List.map_nil, List.length_cons, List.length_nil, List.replicate, List.cons_append, List.nil_append, Nat.reduceAdd, Nat.reduceSub, List.getElem?_cons_succ, List.getElem?_cons_zero, List.set_cons_zero, List.set_cons_succ, R.toS_ok, R.bind_ok, R.toS_ite, R.bind_ite, SR.go_nx, SR.go_rt, SR.go_bk, SR.go_ct, SR.go_ite, SR.lp_nx, SR.lp_rt, SR.lp_bk, SR.lp_ct, SR.lp_ite, fin_nx, fin_rt, fin_ite, W.cb_bl, if_true, if_false, Bool.false_eq_true, eq_int, ne_int, eq_bl, ne_bl, mx2, mn2, int0, notW, truW, fdiv_ok, mod_ok, mul_okl, add_int, neg_int, int_bl, int_int, listLF_fl, listF_fl, listF_tup, listLF_tup, Int.reduceLT, Int.reduceLE, Int.reduceNeg, decide_true, decide_false, nxS, nxA, nxE, R.nox_ok, R.nox_ite, SR.nox_nx, SR.nox_rt, SR.nox_ite, R.bind_ex, R.toS_ex, SR.go_ex, fin_ex, q2, q3, nn, q5]
    rfl

def b_dropped_0 : Sx := (ifS (tb (bn eqW (vr 5) (vr 3))) (exS (lmE appF (vr 4) (axc (tupE (axc (vr 6) (axc (bn addW (vr 7) (vr 2)) axn))) axn))) (ifS (tb (bn neW (vr 5) (vr 1))) (exS (lmE appF (vr 4) (axc (tupE (axc (vr 6) (axc (vr 7) axn))) axn))) passS))
/-! dropped -/
def r_dropped : List W → Sto → R W := bodyD 8 (sqS (setS 2 (bn addW (bn ixW (bn ixW (vr 0) (vr 1)) (kk (.int 1))) (kk (.int 1)))) (sqS (setS 3 (ifE (tb (bn gtW (vr 1) (kk (.int 0)))) (bn subW (vr 1) (kk (.int 1))) (kk (.int 1)))) (sqS (setS 4 (lsE axn)) (sqS (forS (enJ (axc (vr 0) axn)) (gTp 2 (gsC (gNm 5) (gsC (gTp 2 (gsC (gNm 6) (gsC (gNm 7) gsN))) gsN))) b_dropped_0) (rtS (vr 4))))))
def dcOf (heir i : Nat) (room : Int) (p : Part × Nat) : List Part := if p.2 = heir then [(p.1.1, p.1.2 + room)] else if p.2 ≠ i then [p.1] else []
theorem dc_far {heir i : Nat} {room : Int} : ∀ (D : List Part) (k : Nat), (∀ j, k ≤ j → j < k + D.length → j ≠ heir ∧ j ≠ i) → (D.zipIdx k).flatMap (dcOf heir i room) = D
  | [], k, _ => rfl
  | y :: ys, k, h => by
    obtain ⟨h1, h2⟩ := h k (Nat.le_refl _) (by simp)
    have e : dcOf heir i room (y, k) = [y] := by unfold dcOf; rw [if_neg h1, if_pos h2]
    rw [List.zipIdx_cons, List.flatMap_cons, e, dc_far ys (k + 1) fun j h1 h2 => h j (by omega) (by simp at h2 ⊢; omega)]
    rfl
theorem dc_drop (A : List Part) (x : Part) (C : List Part) : ((A ++ x :: C).zipIdx).flatMap (dcOf (if 0 < A.length then A.length - 1 else 1) A.length (x.2 + 1)) = dropS A x C := by
  unfold dropS
  rcases List.eq_nil_or_concat A with rfl | ⟨A', a, rfl⟩
  · rw [if_neg (by simp)]
    have e0 : dcOf 1 0 (x.2 + 1) (x, 0) = [] := by unfold dcOf; rw [if_neg (by simp), if_neg (by simp)]
    simp only [List.nil_append, List.length_nil, List.zipIdx_cons, List.flatMap_cons, e0]
    cases C with
    | nil => rfl
    | cons c C =>
      have e1 : dcOf 1 0 (x.2 + 1) (c, 0 + 1) = [(c.1, c.2 + (x.2 + 1))] := by unfold dcOf; rw [if_pos (by simp)]
      rw [List.zipIdx_cons, List.flatMap_cons, e1, dc_far C _ (fun j h1 h2 => by omega)]
      rfl
  · simp only [List.concat_eq_append]
    have hl : (A' ++ [a]).length = A'.length + 1 := by simp
    rw [hl, if_pos (by omega), Nat.add_sub_cancel]
    have e1 : dcOf A'.length (A'.length + 1) (x.2 + 1) (a, A'.length) = [(a.1, a.2 + (x.2 + 1))] := by unfold dcOf; rw [if_pos rfl]
    have e2 : dcOf A'.length (A'.length + 1) (x.2 + 1) (x, A'.length + 1) = [] := by unfold dcOf; rw [if_neg (by simp), if_neg (by simp)]
    have s1 : A' ++ [a] ++ x :: C = A' ++ a :: x :: C := by simp
    rw [s1, List.zipIdx_append, List.flatMap_append, dc_far A' 0 (fun j h1 h2 => by omega), Nat.zero_add, List.zipIdx_cons, List.flatMap_cons, e1, List.zipIdx_cons, List.flatMap_cons, e2, dc_far C _ (fun j h1 h2 => by omega)]
    have s2 : A' ++ [a] ++ C = A' ++ a :: C := by simp
    rw [s2]
    have : (A' ++ a :: C).modify A'.length (fun y => (y.1, y.2 + (x.2 + 1))) = A' ++ (a.1, a.2 + (x.2 + 1)) :: C := by
      rw [modify_set _ _ _ (by simp)]
      simp
    rw [this]
    simp
def d_dropped : List W → Sto → R W := pureF (fun a : List Part × Part × List Part => [.tup ((a.1 ++ a.2.1 :: a.2.2).map partW), .int (a.1.length : Int)]) (fun a => a.1.length + a.2.2.length ≤ 1000) (fun a => .fl ((dropS a.1 a.2.1 a.2.2).map partW))
theorem parts_inj : ∀ {a b : List Part}, a.map partW = b.map partW → a = b
  | [], [], _ => rfl
  | [], _ :: _, h => by cases h
  | _ :: _, [], h => by cases h
  | x :: a, y :: b, h => by
    simp only [List.map_cons, List.cons.injEq] at h
    have h1 := h.1
    simp only [partW, W.tup.injEq, List.cons.injEq, W.int.injEq] at h1
    obtain ⟨x1, x2⟩ := x
    obtain ⟨y1, y2⟩ := y
    have h3 : x1 = y1 := lay_inj h1.1
    have h4 : x2 = y2 := h1.2.1
    rw [parts_inj h.2, h3, h4]
theorem dropped_enc {a b : List Part × Part × List Part} (e : [W.tup ((a.1 ++ a.2.1 :: a.2.2).map partW), W.int (a.1.length : Int)] = [W.tup ((b.1 ++ b.2.1 :: b.2.2).map partW), W.int (b.1.length : Int)]) : a = b := by
  obtain ⟨a1, a2, a3⟩ := a
  obtain ⟨b1, b2, b3⟩ := b
  simp only [List.cons.injEq, W.tup.injEq, W.int.injEq, and_true] at e
  have h1 := parts_inj e.1
  have h2 : a1.length = b1.length := by omega
  obtain ⟨h3, h4⟩ := List.append_inj h1 h2
  injection h4 with h5 h6
  rw [h3, h5, h6]
theorem dropped_ok {A C : List Part} {x : Part} {st : Sto} (h : A.length + C.length ≤ 1000) : d_dropped [.tup ((A ++ x :: C).map partW), .int (A.length : Int)] st = .ok (.fl ((dropS A x C).map partW)) st :=
  pureF_ok (fun a b e => dropped_enc e) (a := (A, x, C)) h
theorem dropped_loop (P : W) (i heir : Nat) (room : Int) (st : Sto) : ∀ (ys acc : List Part) (k : Nat) (s : Sto) (x : W) (o5 o6 o7 : Option W), acc.length + ys.length ≤ 2000 → Own st s x (acc.map partW) →
    ∃ s' p5 p6 p7, forL (gTp 2 (gsC (gNm 5) (gsC (gTp 2 (gsC (gNm 6) (gsC (gNm 7) gsN))) gsN))) b_dropped_0 ((ys.zipIdx k).map fun p => enG p.2 (partW p.1)) [some P, some (.int (i : Int)), some (.int room), some (.int (heir : Int)), some x, o5, o6, o7] s =
      .nx [some P, some (.int (i : Int)), some (.int room), some (.int (heir : Int)), some x, p5, p6, p7] s' ∧ Own st s' x ((acc ++ (ys.zipIdx k).flatMap (dcOf heir i room)).map partW)
  | [], acc, k, s, x, o5, o6, o7, _, O => ⟨s, o5, o6, o7, rfl, by simpa using O⟩
  | y :: ys, acc, k, s, x, o5, o6, o7, hl, O => by
    rw [List.length_cons] at hl
    have step : ∃ s1, Own st s1 x ((acc ++ dcOf heir i room (y, k)).map partW) ∧ (dcOf heir i room (y, k)).length ≤ 1 ∧
        b_dropped_0 [some P, some (.int (i : Int)), some (.int room), some (.int (heir : Int)), some x, some (.int (k : Int)), some (layW y.1), some (.int y.2)] s = .nx [some P, some (.int (i : Int)), some (.int room), some (.int (heir : Int)), some x, some (.int (k : Int)), some (layW y.1), some (.int y.2)] s1 := by
      have lk := O.lk
      unfold b_dropped_0 dcOf
      by_cases h1 : k = heir
      · obtain ⟨s1, ap, O1⟩ := O.app (by simp; omega) (partW (y.1, y.2 + room))
        refine ⟨s1, by rw [if_pos h1, List.map_append]; exact O1, by rw [if_pos h1]; simp, ?_⟩
        have e1 : ((k : Int) == (heir : Int)) = true := by simp [h1]
        simp only [partW] at ap
        simp only [bodyD, pad, sqS, ifS, orB, andB, notB, tb, bn, un, vr, kk, rtS, rnS, exS, orE, andE, chn, ifE, trB, passS, noS, setS, asgS, parS, axc, axn, flE, lsE, tupE, clE, mthE, mkE, lmE, forS, sqI, rg1, rg2, gSb, gFd, setFS, augFS, gNm, gTp, gsC, gsN, augS, augI, bkS, ctS, whS, slE, oxn, oxs, lpS, List.map_cons, List.map_nil, List.length_cons, List.length_nil, List.replicate, List.cons_append, List.nil_append, Nat.reduceAdd, Nat.reduceSub, List.getElem?_cons_succ, List.getElem?_cons_zero, List.set_cons_zero, List.set_cons_succ, R.toS_ok, R.bind_ok, R.toS_ite, R.bind_ite, SR.go_nx, SR.go_rt, SR.go_bk, SR.go_ct, SR.go_ite, SR.lp_nx, SR.lp_rt, SR.lp_bk, SR.lp_ct, SR.lp_ite, fin_nx, fin_rt, fin_ite, W.cb_bl, if_true, if_false, Bool.false_eq_true, eq_int, ne_int, eq_bl, ne_bl, mx2, mn2, int0, notW, truW, fdiv_ok, mod_ok, mul_okl, add_int, neg_int, int_bl, int_int, listLF_fl, listF_fl, listF_tup, listLF_tup, Int.reduceLT, Int.reduceLE, Int.reduceNeg, decide_true, decide_false, nxS, nxA, nxE, R.nox_ok, R.nox_ite, SR.nox_nx, SR.nox_rt, SR.nox_ite, R.bind_ex, R.toS_ex, SR.go_ex, fin_ex, e1, lk, ap]
      · have e1 : ((k : Int) == (heir : Int)) = false := by simp; omega
        by_cases h2 : k = i
        · refine ⟨s, by rw [if_neg h1, if_neg (by simp [h2]), List.append_nil]; exact O, by rw [if_neg h1, if_neg (by simp [h2])]; simp, ?_⟩
          have e2 : ((k : Int) == (i : Int)) = true := by simp [h2]
          simp only [bodyD, pad, sqS, ifS, orB, andB, notB, tb, bn, un, vr, kk, rtS, rnS, exS, orE, andE, chn, ifE, trB, passS, noS, setS, asgS, parS, axc, axn, flE, lsE, tupE, clE, mthE, mkE, lmE, forS, sqI, rg1, rg2, gSb, gFd, setFS, augFS, gNm, gTp, gsC, gsN, augS, augI, bkS, ctS, whS, slE, oxn, oxs, lpS, List.map_cons, List.map_nil, List.length_cons, List.length_nil, List.replicate, List.cons_append, List.nil_append, Nat.reduceAdd, Nat.reduceSub, List.getElem?_cons_succ, List.getElem?_cons_zero, List.set_cons_zero, List.set_cons_succ, R.toS_ok, R.bind_ok, R.toS_ite, R.bind_ite, SR.go_nx, SR.go_rt, SR.go_bk, SR.go_ct, SR.go_ite, SR.lp_nx, SR.lp_rt, SR.lp_bk, SR.lp_ct, SR.lp_ite, fin_nx, fin_rt, fin_ite, W.cb_bl, if_true, if_false, Bool.false_eq_true, eq_int, ne_int, eq_bl, ne_bl, mx2, mn2, int0, notW, truW, fdiv_ok, mod_ok, mul_okl, add_int, neg_int, int_bl, int_int, listLF_fl, listF_fl, listF_tup, listLF_tup, Int.reduceLT, Int.reduceLE, Int.reduceNeg, decide_true, decide_false, nxS, nxA, nxE, R.nox_ok, R.nox_ite, SR.nox_nx, SR.nox_rt, SR.nox_ite, R.bind_ex, R.toS_ex, SR.go_ex, fin_ex, e1, e2, Bool.not_true]
        · obtain ⟨s1, ap, O1⟩ := O.app (by simp; omega) (partW y)
          refine ⟨s1, by rw [if_neg h1, if_pos h2, List.map_append]; exact O1, by rw [if_neg h1, if_pos h2]; simp, ?_⟩
          have e2 : ((k : Int) == (i : Int)) = false := by simp; omega
          simp only [partW] at ap
          simp only [bodyD, pad, sqS, ifS, orB, andB, notB, tb, bn, un, vr, kk, rtS, rnS, exS, orE, andE, chn, ifE, trB, passS, noS, setS, asgS, parS, axc, axn, flE, lsE, tupE, clE, mthE, mkE, lmE, forS, sqI, rg1, rg2, gSb, gFd, setFS, augFS, gNm, gTp, gsC, gsN, augS, augI, bkS, ctS, whS, slE, oxn, oxs, lpS, List.map_cons, List.map_nil, List.length_cons, List.length_nil, List.replicate, List.cons_append, List.nil_append, Nat.reduceAdd, Nat.reduceSub, List.getElem?_cons_succ, List.getElem?_cons_zero, List.set_cons_zero, List.set_cons_succ, R.toS_ok, R.bind_ok, R.toS_ite, R.bind_ite, SR.go_nx, SR.go_rt, SR.go_bk, SR.go_ct, SR.go_ite, SR.lp_nx, SR.lp_rt, SR.lp_bk, SR.lp_ct, SR.lp_ite, fin_nx, fin_rt, fin_ite, W.cb_bl, if_true, if_false, Bool.false_eq_true, eq_int, ne_int, eq_bl, ne_bl, mx2, mn2, int0, notW, truW, fdiv_ok, mod_ok, mul_okl, add_int, neg_int, int_bl, int_int, listLF_fl, listF_fl, listF_tup, listLF_tup, Int.reduceLT, Int.reduceLE, Int.reduceNeg, decide_true, decide_false, nxS, nxA, nxE, R.nox_ok, R.nox_ite, SR.nox_nx, SR.nox_rt, SR.nox_ite, R.bind_ex, R.toS_ex, SR.go_ex, fin_ex, e1, e2, Bool.not_false, lk, ap]
    obtain ⟨s1, O1, hl1, hb⟩ := step
    obtain ⟨s', p5, p6, p7, ih, O'⟩ := dropped_loop P i heir room st ys _ (k + 1) s1 x (some (.int (k : Int))) (some (layW y.1)) (some (.int y.2)) (by rw [List.length_append]; omega) O1
    refine ⟨s', p5, p6, p7, ?_, by rw [List.zipIdx_cons, List.flatMap_cons, ← List.append_assoc]; exact O'⟩
    rw [List.zipIdx_cons, List.map_cons]
    unfold forL
    simp only [bodyD, pad, sqS, ifS, orB, andB, notB, tb, bn, un, vr, kk, rtS, rnS, exS, orE, andE, chn, ifE, trB, passS, noS, setS, asgS, parS, axc, axn, flE, lsE, tupE, clE, mthE, mkE, lmE, forS, sqI, rg1, rg2, gSb, gFd, setFS, augFS, gNm, gTp, gsC, gsN, augS, augI, bkS, ctS, whS, slE, oxn, oxs, lpS, List.map_cons, List.map_nil, List.length_cons, List.length_nil, List.replicate, List.cons_append, List.nil_append, Nat.reduceAdd, Nat.reduceSub, List.getElem?_cons_succ, List.getElem?_cons_zero, List.set_cons_zero, List.set_cons_succ, R.toS_ok, R.bind_ok, R.toS_ite, R.bind_ite, SR.go_nx, SR.go_rt, SR.go_bk, SR.go_ct, SR.go_ite, SR.lp_nx, SR.lp_rt, SR.lp_bk, SR.lp_ct, SR.lp_ite, fin_nx, fin_rt, fin_ite, W.cb_bl, if_true, if_false, Bool.false_eq_true, eq_int, ne_int, eq_bl, ne_bl, mx2, mn2, int0, notW, truW, fdiv_ok, mod_ok, mul_okl, add_int, neg_int, int_bl, int_int, listLF_fl, listF_fl, listF_tup, listLF_tup, Int.reduceLT, Int.reduceLE, Int.reduceNeg, decide_true, decide_false, nxS, nxA, nxE, R.nox_ok, R.nox_ite, SR.nox_nx, SR.nox_rt, SR.nox_ite, R.bind_ex, R.toS_ex, SR.go_ex, fin_ex, enG, partW]
    rw [hb]
    simp only [bodyD, pad, sqS, ifS, orB, andB, notB, tb, bn, un, vr, kk, rtS, rnS, exS, orE, andE, chn, ifE, trB, passS, noS, setS, asgS, parS, axc, axn, flE, lsE, tupE, clE, mthE, mkE, lmE, forS, sqI, rg1, rg2, gSb, gFd, setFS, augFS, gNm, gTp, gsC, gsN, augS, augI, bkS, ctS, whS, slE, oxn, oxs, lpS, List.map_cons, List.map_nil, List.length_cons, List.length_nil, List.replicate, List.cons_append, List.nil_append, Nat.reduceAdd, Nat.reduceSub, List.getElem?_cons_succ, List.getElem?_cons_zero, List.set_cons_zero, List.set_cons_succ, R.toS_ok, R.bind_ok, R.toS_ite, R.bind_ite, SR.go_nx, SR.go_rt, SR.go_bk, SR.go_ct, SR.go_ite, SR.lp_nx, SR.lp_rt, SR.lp_bk, SR.lp_ct, SR.lp_ite, fin_nx, fin_rt, fin_ite, W.cb_bl, if_true, if_false, Bool.false_eq_true, eq_int, ne_int, eq_bl, ne_bl, mx2, mn2, int0, notW, truW, fdiv_ok, mod_ok, mul_okl, add_int, neg_int, int_bl, int_int, listLF_fl, listF_fl, listF_tup, listLF_tup, Int.reduceLT, Int.reduceLE, Int.reduceNeg, decide_true, decide_false, nxS, nxA, nxE, R.nox_ok, R.nox_ite, SR.nox_nx, SR.nox_rt, SR.nox_ite, R.bind_ex, R.toS_ex, SR.go_ex, fin_ex]
    exact ih
theorem gz_dropped : Gz 2 r_dropped d_dropped := by
  refine gz_pureF fun ⟨A, x, C⟩ st hl => ?_
  have hl : A.length + C.length ≤ 1000 := hl
  show ∃ w0 s2, r_dropped [.tup ((A ++ x :: C).map partW), .int (A.length : Int)] st = .ok w0 (st ++ s2) ∧ Fzs st.length (st ++ s2) w0 (.fl ((dropS A x C).map partW))
  obtain ⟨s, p5, p6, p7, lp, O⟩ := dropped_loop (.tup ((A ++ x :: C).map partW)) A.length (if 0 < A.length then A.length - 1 else 1) (x.2 + 1) st (A ++ x :: C) [] 0 (st ++ [.lst []]) (.loc st.length) none none none (by simp; omega) (by simpa using Own.new (st := st) [] [])
  rw [List.nil_append, dc_drop] at O
  obtain ⟨s2, hs2⟩ := O.ext
  have a1 : ixW (.tup ((A ++ x :: C).map partW)) (.int (A.length : Int)) st = .ok (partW x) st := ixW_lst (seqOf_tup ..) (by rw [List.map_append]; exact atI_app partW A _ _)
  have a2 : ixW (partW x) (.int 1) st = .ok (.int x.2) st := rfl
  have hh : (if decide ((0 : Int) < (A.length : Int)) = true then R.ok (W.int ((A.length : Int) - 1)) st else R.ok (.int 1) st) = R.ok (W.int (((if 0 < A.length then A.length - 1 else 1 : Nat)) : Int)) st := by
    by_cases h : 0 < A.length
    · have h2 : decide ((0 : Int) < (A.length : Int)) = true := by simpa using h
      rw [if_pos h2, if_pos h]
      congr 2
      omega
    · have h2 : ¬ decide ((0 : Int) < (A.length : Int)) = true := by simpa using h
      rw [if_neg h2, if_neg h]; rfl
  refine ⟨.loc st.length, s2, ?_, by rw [← hs2]; exact O.fzs (Cl.map part_cl)⟩
  rw [← hs2]
  have ej : ∀ (a1 a2 a3 a4 a5 a6 a7 : Option W) s, enJ (axc (vr 0) axn) [some (.tup ((A ++ x :: C).map partW)), a1, a2, a3, a4, a5, a6, a7] s = .ok (.st ((A ++ x :: C).zipIdx.map fun p => enG p.2 (partW p.1))) s := by
    intros
    rename_i s
    refine (enJ_tup (xs := (A ++ x :: C).map partW) (st := s) (by simp only [bodyD, pad, sqS, ifS, orB, andB, notB, tb, bn, un, vr, kk, rtS, rnS, exS, orE, andE, chn, ifE, trB, passS, noS, setS, asgS, parS, axc, axn, flE, lsE, tupE, clE, mthE, mkE, lmE, forS, sqI, rg1, rg2, gSb, gFd, setFS, augFS, gNm, gTp, gsC, gsN, augS, augI, bkS, ctS, whS, slE, oxn, oxs, lpS, List.map_cons, List.map_nil, List.length_cons, List.length_nil, List.replicate, List.cons_append, List.nil_append, Nat.reduceAdd, Nat.reduceSub, List.getElem?_cons_succ, List.getElem?_cons_zero, List.set_cons_zero, List.set_cons_succ, R.toS_ok, R.bind_ok, R.toS_ite, R.bind_ite, SR.go_nx, SR.go_rt, SR.go_bk, SR.go_ct, SR.go_ite, SR.lp_nx, SR.lp_rt, SR.lp_bk, SR.lp_ct, SR.lp_ite, fin_nx, fin_rt, fin_ite, W.cb_bl, if_true, if_false, Bool.false_eq_true, eq_int, ne_int, eq_bl, ne_bl, mx2, mn2, int0, notW, truW, fdiv_ok, mod_ok, mul_okl, add_int, neg_int, int_bl, int_int, listLF_fl, listF_fl, listF_tup, listLF_tup, Int.reduceLT, Int.reduceLE, Int.reduceNeg, decide_true, decide_false, nxS, nxA, nxE, R.nox_ok, R.nox_ite, SR.nox_nx, SR.nox_rt, SR.nox_ite, R.bind_ex, R.toS_ex, SR.go_ex, fin_ex])).trans ?_
    rw [List.zipIdx_map, List.map_map]; rfl
  unfold r_dropped
  simp only [bodyD, pad, sqS, ifS, orB, andB, notB, tb, bn, un, vr, kk, rtS, rnS, exS, orE, andE, chn, ifE, trB, passS, noS, setS, asgS, parS, axc, axn, flE, lsE, tupE, clE, mthE, mkE, lmE, forS, sqI, rg1, rg2, gSb, gFd, setFS, augFS, gNm, gTp, gsC, gsN, augS, augI, bkS, ctS, whS, slE, oxn, oxs, lpS, List.map_cons, List.map_nil, List.length_cons, List.length_nil, List.replicate, List.cons_append, List.nil_append, Nat.reduceAdd, Nat.reduceSub, List.getElem?_cons_succ, List.getElem?_cons_zero, List.set_cons_zero, List.set_cons_succ, R.toS_ok, R.bind_ok, SR.go_nx, SR.go_rt, SR.go_bk, SR.go_ct, SR.lp_nx, SR.lp_rt, SR.lp_bk, SR.lp_ct, fin_nx, fin_rt, W.cb_bl, if_true, if_false, Bool.false_eq_true, eq_int, ne_int, eq_bl, ne_bl, mx2, mn2, int0, notW, truW, fdiv_ok, mod_ok, mul_okl, add_int, neg_int, int_bl, int_int, listLF_fl, listF_fl, listF_tup, listLF_tup, Int.reduceLT, Int.reduceLE, Int.reduceNeg, decide_true, decide_false, nxS, nxA, nxE, R.nox_ok, R.nox_ite, SR.nox_nx, SR.nox_rt, SR.nox_ite, R.bind_ex, R.toS_ex, SR.go_ex, fin_ex, a1, a2, hh, ej, lp]

def d_taken_out (n : Nat) : List W → Sto → R W := pureF (fun a : Lay × Int => [layW a.1, .int a.2]) (fun a => Good n a.1 ∧ n ≤ 20 ∧ a.1.panes.Nodup ∧ ∃ b ps, a.1 = .node b ps) (fun a => layW (a.1.taken a.2))

def b_taken_out_0 (slf : List W → Sto → R W) : Sx := (sqS (ifS (tb (bn eqW (vr 5) (vr 1))) (sqS (setS 7 (clE d_dropped (axc (vr 3) (axc (vr 4) axn)))) (sqS (ifS (tb (bn eqW (clE lenF (axc (vr 7) axn)) (kk (.int 1)))) (rtS (bn ixW (bn ixW (vr 7) (kk (.int 0))) (kk (.int 0)))) passS) (rtS (tupE (axc (vr 2) (axc (clE tupF (axc (vr 7) axn)) axn)))))) passS) (ifS (tb (bn inW (vr 1) (clE (d_panes 20) (axc (vr 5) axn)))) (sqS (setS 8 (clE slf (axc (vr 5) (axc (vr 1) axn)))) (sqS (ifS (andB (notB (trB (un (isiW .int) (vr 8)))) (tb (bn eqW (bn ixW (vr 8) (kk (.int 0))) (vr 2)))) (rtS (tupE (axc (vr 2) (axc (bn addAW (bn addAW (slE slAF (vr 3) oxn (oxs (vr 4))) (bn ixW (vr 8) (kk (.int 1)))) (slE slAF (vr 3) (oxs (bn addAW (vr 4) (kk (.int 1)))) oxn)) axn)))) passS) (rtS (tupE (axc (vr 2) (axc (bn addAW (bn addAW (slE slAF (vr 3) oxn (oxs (vr 4))) (tupE (axc (tupE (axc (vr 8) (axc (vr 6) axn))) axn))) (slE slAF (vr 3) (oxs (bn addAW (vr 4) (kk (.int 1)))) oxn)) axn)))))) passS))
/-! taken_out -/
def r_taken_out : Nat → List W → Sto → R W
  | 0 => bodyD 9 noS
  | n + 1 => bodyD 9 (sqS (asgS (vr 0) (gTp 2 (gsC (gNm 2) (gsC (gNm 3) gsN)))) (sqS (forS (enJ (axc (vr 3) axn)) (gTp 2 (gsC (gNm 4) (gsC (gTp 2 (gsC (gNm 5) (gsC (gNm 6) gsN))) gsN))) (b_taken_out_0 (d_taken_out n))) (rtS (vr 0))))
theorem taken_out_ok {n : Nat} {L : Lay} {q : Int} {st : Sto} (g : Good n L) (hn : n ≤ 20) (nd : L.panes.Nodup) (h : ∃ b ps, L = .node b ps) : d_taken_out n [layW L, .int q] st = .ok (layW (L.taken q)) st :=
  pureF_ok (fun a b e => taken_enc e) (a := (L, q)) ⟨g, hn, nd, h⟩
theorem cut_at {A C : List Part} {x : Part} : cutL ((A ++ x :: C).map partW) none (some (A.length : Int)) = A.map partW := by
  rw [cutL_to]; simp
theorem cut_behind {A C : List Part} {x : Part} : cutL ((A ++ x :: C).map partW) (some ((A.length : Int) + 1)) none = C.map partW := by
  have := cutL_from ((A ++ x :: C).map partW) (A.length + 1)
  rw [show ((A.length + 1 : Nat) : Int) = (A.length : Int) + 1 by omega] at this
  rw [this, ← List.map_drop]
  congr 1
  rw [← List.drop_drop, List.drop_left]; rfl
theorem taken_out_loop {n : Nat} (hn : n ≤ 20) (b : Bool) (ps : List Part) (q : Int) (st : Sto) (hl : ps.length ≤ 100) (h2 : 2 ≤ ps.length) (hg : ∀ y ∈ ps, Good n y.1 ∧ y.1.panes.Nodup) :
    ∀ (xs A : List Part) (o4 o5 o6 : Option W), A ++ xs = ps → (∀ y ∈ A, q ∉ y.1.panes) →
    fin ((forL (gTp 2 (gsC (gNm 4) (gsC (gTp 2 (gsC (gNm 5) (gsC (gNm 6) gsN))) gsN))) (b_taken_out_0 (d_taken_out n)) ((xs.zipIdx A.length).map fun p => enG p.2 (partW p.1)) [some (layW (.node b ps)), some (.int q), some (.str (wayS b)), some (.tup (ps.map partW)), o4, o5, o6, none, none] st).go (rtS (vr 0))) = .ok (layW ((Lay.node b ps).taken q)) st
  | [], A, o4, o5, o6, hd, hA => by
    rw [List.append_nil] at hd
    subst hd
    rw [taken_none hA]
    rfl
  | x :: C, A, o4, o5, o6, hd, hA => by
    obtain ⟨g, nd⟩ := hg x (by rw [← hd]; simp)
    have d1 := g.dp
    have i1 := eq_layI (L := x.1) (by omega) q st
    have pn := panes_ok (st := st) (g.mono hn)
    have inp : inW (.int q) (.fl (x.1.panes.map W.int)) st = .ok (.bl (decide (q ∈ x.1.panes))) st := in_panes q _ st
    have ih := taken_out_loop hn b ps q st hl h2 hg C (A ++ [x])
    subst hd
    simp only [List.length_append, List.length_cons] at hl h2
    rw [List.zipIdx_cons, List.map_cons]
    unfold forL
    simp only [bodyD, pad, sqS, ifS, orB, andB, notB, tb, bn, un, vr, kk, rtS, rnS, exS, orE, andE, chn, ifE, trB, passS, noS, setS, asgS, parS, axc, axn, flE, lsE, tupE, clE, mthE, mkE, lmE, forS, sqI, rg1, rg2, gSb, gFd, setFS, augFS, gNm, gTp, gsC, gsN, augS, augI, bkS, ctS, whS, slE, oxn, oxs, lpS, List.map_cons, List.map_nil, List.length_cons, List.length_nil, List.replicate, List.cons_append, List.nil_append, Nat.reduceAdd, Nat.reduceSub, List.getElem?_cons_succ, List.getElem?_cons_zero, List.set_cons_zero, List.set_cons_succ, R.toS_ok, R.bind_ok, R.toS_ite, R.bind_ite, SR.go_nx, SR.go_rt, SR.go_bk, SR.go_ct, SR.go_ite, SR.lp_nx, SR.lp_rt, SR.lp_bk, SR.lp_ct, SR.lp_ite, fin_nx, fin_rt, fin_ite, W.cb_bl, if_true, if_false, Bool.false_eq_true, eq_int, ne_int, eq_bl, ne_bl, mx2, mn2, int0, notW, truW, fdiv_ok, mod_ok, mul_okl, add_int, neg_int, int_bl, int_int, listLF_fl, listF_fl, listF_tup, listLF_tup, Int.reduceLT, Int.reduceLE, Int.reduceNeg, decide_true, decide_false, nxS, nxA, nxE, R.nox_ok, R.nox_ite, SR.nox_nx, SR.nox_rt, SR.nox_ite, R.bind_ex, R.toS_ex, SR.go_ex, fin_ex, enG, partW]
    by_cases hc : x.1 = .pane q
    · have hx : q ∈ x.1.panes := by rw [hc, panes_pane]; simp
      rw [taken_at hA hx, if_pos hc]
      have i2 : eqW (layW x.1) (.int q) st = .ok (.bl true) st := by rw [i1]; simp [hc]
      have dr := dropped_ok (A := A) (C := C) (x := x) (st := st) (by omega)
      have dl := dropS_len A x C
      have ln : lenF [.fl ((dropS A x C).map partW)] st = .ok (.int ((dropS A x C).length : Int)) st := by simp [lenF, seqOf, lstOf]
      have tq : tupF [.fl ((dropS A x C).map partW)] st = .ok (.tup ((dropS A x C).map partW)) st := rfl
      unfold b_taken_out_0
      by_cases h1 : (dropS A x C).length = 1
      · obtain ⟨z, hz⟩ : ∃ z, dropS A x C = [z] := by
          match h : dropS A x C, h1 with
          | [z], _ => exact ⟨z, rfl⟩
        have e1 : (((dropS A x C).length : Int) == 1) = true := by simp [h1]
        have x5 : ixW (.fl ((dropS A x C).map partW)) (.int 0) st = .ok (partW z) st := ixW_lst (seqOf_fl ..) (by rw [hz]; rfl)
        have x6 : single b (dropS A x C) = z.1 := by rw [hz]; rfl
        simp only [bodyD, pad, sqS, ifS, orB, andB, notB, tb, bn, un, vr, kk, rtS, rnS, exS, orE, andE, chn, ifE, trB, passS, noS, setS, asgS, parS, axc, axn, flE, lsE, tupE, clE, mthE, mkE, lmE, forS, sqI, rg1, rg2, gSb, gFd, setFS, augFS, gNm, gTp, gsC, gsN, augS, augI, bkS, ctS, whS, slE, oxn, oxs, lpS, List.map_cons, List.map_nil, List.length_cons, List.length_nil, List.replicate, List.cons_append, List.nil_append, Nat.reduceAdd, Nat.reduceSub, List.getElem?_cons_succ, List.getElem?_cons_zero, List.set_cons_zero, List.set_cons_succ, R.toS_ok, R.bind_ok, R.toS_ite, R.bind_ite, SR.go_nx, SR.go_rt, SR.go_bk, SR.go_ct, SR.go_ite, SR.lp_nx, SR.lp_rt, SR.lp_bk, SR.lp_ct, SR.lp_ite, fin_nx, fin_rt, fin_ite, W.cb_bl, if_true, if_false, Bool.false_eq_true, eq_int, ne_int, eq_bl, ne_bl, mx2, mn2, int0, notW, truW, fdiv_ok, mod_ok, mul_okl, add_int, neg_int, int_bl, int_int, listLF_fl, listF_fl, listF_tup, listLF_tup, Int.reduceLT, Int.reduceLE, Int.reduceNeg, decide_true, decide_false, nxS, nxA, nxE, R.nox_ok, R.nox_ite, SR.nox_nx, SR.nox_rt, SR.nox_ite, R.bind_ex, R.toS_ex, SR.go_ex, fin_ex, i2, dr, ln, e1, x5, px0, x6]
      · have e1 : (((dropS A x C).length : Int) == 1) = false := by simp; omega
        have x6 : single b (dropS A x C) = .node b (dropS A x C) := by
          unfold single
          split
          · rename_i z hz; rw [hz] at h1; simp at h1
          · rfl
        simp only [bodyD, pad, sqS, ifS, orB, andB, notB, tb, bn, un, vr, kk, rtS, rnS, exS, orE, andE, chn, ifE, trB, passS, noS, setS, asgS, parS, axc, axn, flE, lsE, tupE, clE, mthE, mkE, lmE, forS, sqI, rg1, rg2, gSb, gFd, setFS, augFS, gNm, gTp, gsC, gsN, augS, augI, bkS, ctS, whS, slE, oxn, oxs, lpS, List.map_cons, List.map_nil, List.length_cons, List.length_nil, List.replicate, List.cons_append, List.nil_append, Nat.reduceAdd, Nat.reduceSub, List.getElem?_cons_succ, List.getElem?_cons_zero, List.set_cons_zero, List.set_cons_succ, R.toS_ok, R.bind_ok, R.toS_ite, R.bind_ite, SR.go_nx, SR.go_rt, SR.go_bk, SR.go_ct, SR.go_ite, SR.lp_nx, SR.lp_rt, SR.lp_bk, SR.lp_ct, SR.lp_ite, fin_nx, fin_rt, fin_ite, W.cb_bl, if_true, if_false, Bool.false_eq_true, eq_int, ne_int, eq_bl, ne_bl, mx2, mn2, int0, notW, truW, fdiv_ok, mod_ok, mul_okl, add_int, neg_int, int_bl, int_int, listLF_fl, listF_fl, listF_tup, listLF_tup, Int.reduceLT, Int.reduceLE, Int.reduceNeg, decide_true, decide_false, nxS, nxA, nxE, R.nox_ok, R.nox_ite, SR.nox_nx, SR.nox_rt, SR.nox_ite, R.bind_ex, R.toS_ex, SR.go_ex, fin_ex, i2, dr, ln, e1, tq, x6, layW_node]
    · have i2 : eqW (layW x.1) (.int q) st = .ok (.bl false) st := by rw [i1]; simp [hc]
      by_cases hx : q ∈ x.1.panes
      · have eq : decide (q ∈ x.1.panes) = true := by simpa using hx
        rw [taken_at hA hx, if_neg hc]
        obtain ⟨c, qs, hnode⟩ : ∃ c qs, x.1 = .node c qs := by
          cases h : x.1 with
          | pane p => rw [h, panes_pane] at hx; exact absurd (by rw [h, List.mem_singleton.mp hx]) hc
          | node c qs => exact ⟨c, qs, rfl⟩
        have rc := taken_out_ok (q := q) (st := st) g hn nd ⟨c, qs, hnode⟩
        have sl1 : slAF (.tup ((A ++ x :: C).map partW)) none (some (A.length : Int)) st = .ok (.tup (A.map partW)) st := by rw [slA_tup, cut_at]
        have sl2 : slAF (.tup ((A ++ x :: C).map partW)) (some ((A.length : Int) + 1)) none st = .ok (.tup (C.map partW)) st := by rw [slA_tup, cut_behind]
        have tl := taken_len (q := q) g.ok nd
        have to := taken_ok (q := q) g.ok (by omega)
        have sm := g.sm
        have plain : ∀ rest : Lay, addAW (.tup (A.map partW)) (.tup [.tup [layW rest, .int x.2]]) st = .ok (.tup ((A ++ [(rest, x.2)]).map partW)) st ∧ addAW (.tup ((A ++ [(rest, x.2)]).map partW)) (.tup (C.map partW)) st = .ok (.tup ((A ++ [(rest, x.2)] ++ C).map partW)) st := fun rest =>
          ⟨by rw [addA_tup (by simp; omega), List.map_append]; rfl, by rw [addA_tup (by simp; omega), List.map_append (l₂ := C)]⟩
        have ai : ∀ (i j : Int) s, addAW (.int i) (.int j) s = .ok (.int (i + j)) s := fun _ _ _ => rfl
        unfold b_taken_out_0
        cases ht : x.1.taken q with
        | pane p =>
          rw [ht] at rc
          have ty : isiW .int (layW (.pane p)) st = .ok (.bl true) st := by rw [layW_pane]; rfl
          obtain ⟨p1, p2⟩ := plain (.pane p)
          simp only [bodyD, pad, sqS, ifS, orB, andB, notB, tb, bn, un, vr, kk, rtS, rnS, exS, orE, andE, chn, ifE, trB, passS, noS, setS, asgS, parS, axc, axn, flE, lsE, tupE, clE, mthE, mkE, lmE, forS, sqI, rg1, rg2, gSb, gFd, setFS, augFS, gNm, gTp, gsC, gsN, augS, augI, bkS, ctS, whS, slE, oxn, oxs, lpS, List.map_cons, List.map_nil, List.length_cons, List.length_nil, List.replicate, List.cons_append, List.nil_append, Nat.reduceAdd, Nat.reduceSub, List.getElem?_cons_succ, List.getElem?_cons_zero, List.set_cons_zero, List.set_cons_succ, R.toS_ok, R.bind_ok, R.toS_ite, R.bind_ite, SR.go_nx, SR.go_rt, SR.go_bk, SR.go_ct, SR.go_ite, SR.lp_nx, SR.lp_rt, SR.lp_bk, SR.lp_ct, SR.lp_ite, fin_nx, fin_rt, fin_ite, W.cb_bl, if_true, if_false, Bool.false_eq_true, eq_int, ne_int, eq_bl, ne_bl, mx2, mn2, int0, notW, truW, fdiv_ok, mod_ok, mul_okl, add_int, neg_int, int_bl, int_int, listLF_fl, listF_fl, listF_tup, listLF_tup, Int.reduceLT, Int.reduceLE, Int.reduceNeg, decide_true, decide_false, nxS, nxA, nxE, R.nox_ok, R.nox_ite, SR.nox_nx, SR.nox_rt, SR.nox_ite, R.bind_ex, R.toS_ex, SR.go_ex, fin_ex, i2, pn, inp, eq, rc, ty, Bool.not_true, sl1, sl2, p1, p2, ai]
          show _ = R.ok (layW (.node b (A ++ [(Lay.pane p, x.2)] ++ C))) st
          rw [layW_node]
        | node c' rs =>
          rw [ht] at rc tl to
          have rl := parts_len to
          have ty : isiW .int (layW (.node c' rs)) st = .ok (.bl false) st := by rw [layW_node]; rfl
          have w0 : ixW (layW (.node c' rs)) (.int 0) st = .ok (.str (wayS c')) st := by rw [layW_node]; rfl
          have w1 : ixW (layW (.node c' rs)) (.int 1) st = .ok (.tup (rs.map partW)) st := by rw [layW_node]; rfl
          by_cases ec : c' = b
          · have eb : (c' == b) = true := by simpa using ec
            have p1 : addAW (.tup (A.map partW)) (.tup (rs.map partW)) st = .ok (.tup ((A ++ rs).map partW)) st := by rw [addA_tup (by simp; omega), List.map_append]
            have p2 : addAW (.tup ((A ++ rs).map partW)) (.tup (C.map partW)) st = .ok (.tup ((A ++ rs ++ C).map partW)) st := by rw [addA_tup (by simp; omega), List.map_append (l₂ := C)]
            simp only [bodyD, pad, sqS, ifS, orB, andB, notB, tb, bn, un, vr, kk, rtS, rnS, exS, orE, andE, chn, ifE, trB, passS, noS, setS, asgS, parS, axc, axn, flE, lsE, tupE, clE, mthE, mkE, lmE, forS, sqI, rg1, rg2, gSb, gFd, setFS, augFS, gNm, gTp, gsC, gsN, augS, augI, bkS, ctS, whS, slE, oxn, oxs, lpS, List.map_cons, List.map_nil, List.length_cons, List.length_nil, List.replicate, List.cons_append, List.nil_append, Nat.reduceAdd, Nat.reduceSub, List.getElem?_cons_succ, List.getElem?_cons_zero, List.set_cons_zero, List.set_cons_succ, R.toS_ok, R.bind_ok, R.toS_ite, R.bind_ite, SR.go_nx, SR.go_rt, SR.go_bk, SR.go_ct, SR.go_ite, SR.lp_nx, SR.lp_rt, SR.lp_bk, SR.lp_ct, SR.lp_ite, fin_nx, fin_rt, fin_ite, W.cb_bl, if_true, if_false, Bool.false_eq_true, eq_int, ne_int, eq_bl, ne_bl, mx2, mn2, int0, notW, truW, fdiv_ok, mod_ok, mul_okl, add_int, neg_int, int_bl, int_int, listLF_fl, listF_fl, listF_tup, listLF_tup, Int.reduceLT, Int.reduceLE, Int.reduceNeg, decide_true, decide_false, nxS, nxA, nxE, R.nox_ok, R.nox_ite, SR.nox_nx, SR.nox_rt, SR.nox_ite, R.bind_ex, R.toS_ex, SR.go_ex, fin_ex, i2, pn, inp, eq, rc, ty, Bool.not_false, w0, eq_way, eb, w1, sl1, sl2, p1, p2, ai]
            have : spl b A (.node c' rs) x.2 C = .node b (A ++ rs ++ C) := by unfold spl; simp only; rw [if_pos ec]
            rw [this, layW_node]
          · have eb : (c' == b) = false := by simpa using ec
            obtain ⟨p1, p2⟩ := plain (.node c' rs)
            simp only [bodyD, pad, sqS, ifS, orB, andB, notB, tb, bn, un, vr, kk, rtS, rnS, exS, orE, andE, chn, ifE, trB, passS, noS, setS, asgS, parS, axc, axn, flE, lsE, tupE, clE, mthE, mkE, lmE, forS, sqI, rg1, rg2, gSb, gFd, setFS, augFS, gNm, gTp, gsC, gsN, augS, augI, bkS, ctS, whS, slE, oxn, oxs, lpS, List.map_cons, List.map_nil, List.length_cons, List.length_nil, List.replicate, List.cons_append, List.nil_append, Nat.reduceAdd, Nat.reduceSub, List.getElem?_cons_succ, List.getElem?_cons_zero, List.set_cons_zero, List.set_cons_succ, R.toS_ok, R.bind_ok, R.toS_ite, R.bind_ite, SR.go_nx, SR.go_rt, SR.go_bk, SR.go_ct, SR.go_ite, SR.lp_nx, SR.lp_rt, SR.lp_bk, SR.lp_ct, SR.lp_ite, fin_nx, fin_rt, fin_ite, W.cb_bl, if_true, if_false, Bool.false_eq_true, eq_int, ne_int, eq_bl, ne_bl, mx2, mn2, int0, notW, truW, fdiv_ok, mod_ok, mul_okl, add_int, neg_int, int_bl, int_int, listLF_fl, listF_fl, listF_tup, listLF_tup, Int.reduceLT, Int.reduceLE, Int.reduceNeg, decide_true, decide_false, nxS, nxA, nxE, R.nox_ok, R.nox_ite, SR.nox_nx, SR.nox_rt, SR.nox_ite, R.bind_ex, R.toS_ex, SR.go_ex, fin_ex, i2, pn, inp, eq, rc, ty, Bool.not_false, w0, eq_way, eb, sl1, sl2, p1, p2, ai]
            have : spl b A (.node c' rs) x.2 C = .node b (A ++ [(.node c' rs, x.2)] ++ C) := by unfold spl; simp only; rw [if_neg ec]
            rw [this, layW_node]
      · have eq : decide (q ∈ x.1.panes) = false := by simpa using hx
        have hb : b_taken_out_0 (d_taken_out n) [some (layW (.node b (A ++ x :: C))), some (.int q), some (.str (wayS b)), some (.tup ((A ++ x :: C).map partW)), some (.int (A.length : Int)), some (layW x.1), some (.int x.2), none, none] st =
            .nx [some (layW (.node b (A ++ x :: C))), some (.int q), some (.str (wayS b)), some (.tup ((A ++ x :: C).map partW)), some (.int (A.length : Int)), some (layW x.1), some (.int x.2), none, none] st := by
          unfold b_taken_out_0
          simp only [bodyD, pad, sqS, ifS, orB, andB, notB, tb, bn, un, vr, kk, rtS, rnS, exS, orE, andE, chn, ifE, trB, passS, noS, setS, asgS, parS, axc, axn, flE, lsE, tupE, clE, mthE, mkE, lmE, forS, sqI, rg1, rg2, gSb, gFd, setFS, augFS, gNm, gTp, gsC, gsN, augS, augI, bkS, ctS, whS, slE, oxn, oxs, lpS, List.map_cons, List.map_nil, List.length_cons, List.length_nil, List.replicate, List.cons_append, List.nil_append, Nat.reduceAdd, Nat.reduceSub, List.getElem?_cons_succ, List.getElem?_cons_zero, List.set_cons_zero, List.set_cons_succ, R.toS_ok, R.bind_ok, R.toS_ite, R.bind_ite, SR.go_nx, SR.go_rt, SR.go_bk, SR.go_ct, SR.go_ite, SR.lp_nx, SR.lp_rt, SR.lp_bk, SR.lp_ct, SR.lp_ite, fin_nx, fin_rt, fin_ite, W.cb_bl, if_true, if_false, Bool.false_eq_true, eq_int, ne_int, eq_bl, ne_bl, mx2, mn2, int0, notW, truW, fdiv_ok, mod_ok, mul_okl, add_int, neg_int, int_bl, int_int, listLF_fl, listF_fl, listF_tup, listLF_tup, Int.reduceLT, Int.reduceLE, Int.reduceNeg, decide_true, decide_false, nxS, nxA, nxE, R.nox_ok, R.nox_ite, SR.nox_nx, SR.nox_rt, SR.nox_ite, R.bind_ex, R.toS_ex, SR.go_ex, fin_ex, i2, pn, inp, eq]
        rw [hb]
        simp only [bodyD, pad, sqS, ifS, orB, andB, notB, tb, bn, un, vr, kk, rtS, rnS, exS, orE, andE, chn, ifE, trB, passS, noS, setS, asgS, parS, axc, axn, flE, lsE, tupE, clE, mthE, mkE, lmE, forS, sqI, rg1, rg2, gSb, gFd, setFS, augFS, gNm, gTp, gsC, gsN, augS, augI, bkS, ctS, whS, slE, oxn, oxs, lpS, List.map_cons, List.map_nil, List.length_cons, List.length_nil, List.replicate, List.cons_append, List.nil_append, Nat.reduceAdd, Nat.reduceSub, List.getElem?_cons_succ, List.getElem?_cons_zero, List.set_cons_zero, List.set_cons_succ, R.toS_ok, R.bind_ok, R.toS_ite, R.bind_ite, SR.go_nx, SR.go_rt, SR.go_bk, SR.go_ct, SR.go_ite, SR.lp_nx, SR.lp_rt, SR.lp_bk, SR.lp_ct, SR.lp_ite, fin_nx, fin_rt, fin_ite, W.cb_bl, if_true, if_false, Bool.false_eq_true, eq_int, ne_int, eq_bl, ne_bl, mx2, mn2, int0, notW, truW, fdiv_ok, mod_ok, mul_okl, add_int, neg_int, int_bl, int_int, listLF_fl, listF_fl, listF_tup, listLF_tup, Int.reduceLT, Int.reduceLE, Int.reduceNeg, decide_true, decide_false, nxS, nxA, nxE, R.nox_ok, R.nox_ite, SR.nox_nx, SR.nox_rt, SR.nox_ite, R.bind_ex, R.toS_ex, SR.go_ex, fin_ex]
        have := ih (some (.int (A.length : Int))) (some (layW x.1)) (some (.int x.2)) (by simp) (fun y hy => by
          rcases List.mem_append.mp hy with h | h
          · exact hA y h
          · rw [List.mem_singleton.mp h]; exact hx)
        rw [List.length_append] at this
        exact this
theorem gz_taken_out (n : Nat) : Gz 2 (r_taken_out n) (d_taken_out n) := by
  refine gz_pureF0 (fun a _ => lay_cl _) fun ⟨L, q⟩ st ⟨g, hn, nd, b, ps, e⟩ => ⟨[], ?_⟩
  have g : Good n L := g
  have nd : L.panes.Nodup := nd
  have e : L = .node b ps := e
  subst e
  rw [List.append_nil]
  cases n with
  | zero => exact g.zero.elim
  | succ n =>
    have hg : ∀ y ∈ ps, Good n y.1 ∧ y.1.panes.Nodup := fun y hy => ⟨g.mem hy, by
      obtain ⟨E, F, rfl⟩ := List.append_of_mem hy
      rw [panes_node, List.flatMap_append, List.flatMap_cons] at nd
      exact (List.nodup_append.mp (List.nodup_append.mp nd).2.1).1⟩
    have lp := taken_out_loop (n := n) (by omega) b ps q st g.len g.ok.two hg ps [] none none none rfl (fun y hy => by cases hy)
    have ej : ∀ (a0 a1 a2 a4 a5 a6 a7 a8 : Option W) s, enJ (axc (vr 3) axn) [a0, a1, a2, some (.tup (ps.map partW)), a4, a5, a6, a7, a8] s = .ok (.st (ps.zipIdx.map fun p => enG p.2 (partW p.1))) s := by
      intros
      rename_i s
      refine (enJ_tup (xs := ps.map partW) (st := s) (by simp only [bodyD, pad, sqS, ifS, orB, andB, notB, tb, bn, un, vr, kk, rtS, rnS, exS, orE, andE, chn, ifE, trB, passS, noS, setS, asgS, parS, axc, axn, flE, lsE, tupE, clE, mthE, mkE, lmE, forS, sqI, rg1, rg2, gSb, gFd, setFS, augFS, gNm, gTp, gsC, gsN, augS, augI, bkS, ctS, whS, slE, oxn, oxs, lpS, List.map_cons, List.map_nil, List.length_cons, List.length_nil, List.replicate, List.cons_append, List.nil_append, Nat.reduceAdd, Nat.reduceSub, List.getElem?_cons_succ, List.getElem?_cons_zero, List.set_cons_zero, List.set_cons_succ, R.toS_ok, R.bind_ok, R.toS_ite, R.bind_ite, SR.go_nx, SR.go_rt, SR.go_bk, SR.go_ct, SR.go_ite, SR.lp_nx, SR.lp_rt, SR.lp_bk, SR.lp_ct, SR.lp_ite, fin_nx, fin_rt, fin_ite, W.cb_bl, if_true, if_false, Bool.false_eq_true, eq_int, ne_int, eq_bl, ne_bl, mx2, mn2, int0, notW, truW, fdiv_ok, mod_ok, mul_okl, add_int, neg_int, int_bl, int_int, listLF_fl, listF_fl, listF_tup, listLF_tup, Int.reduceLT, Int.reduceLE, Int.reduceNeg, decide_true, decide_false, nxS, nxA, nxE, R.nox_ok, R.nox_ite, SR.nox_nx, SR.nox_rt, SR.nox_ite, R.bind_ex, R.toS_ex, SR.go_ex, fin_ex])).trans ?_
      rw [List.zipIdx_map, List.map_map]; rfl
    show r_taken_out (n + 1) [layW (.node b ps), .int q] st = _
    unfold r_taken_out
    rw [layW_node] at lp ⊢
    simp only [bodyD, pad, sqS, ifS, orB, andB, notB, tb, bn, un, vr, kk, rtS, rnS, exS, orE, andE, chn, ifE, trB, passS, noS, setS, asgS, parS, axc, axn, flE, lsE, tupE, clE, mthE, mkE, lmE, forS, sqI, rg1, rg2, gSb, gFd, setFS, augFS, gNm, gTp, gsC, gsN, augS, augI, bkS, ctS, whS, slE, oxn, oxs, lpS, List.map_cons, List.map_nil, List.length_cons, List.length_nil, List.replicate, List.cons_append, List.nil_append, Nat.reduceAdd, Nat.reduceSub, List.getElem?_cons_succ, List.getElem?_cons_zero, List.set_cons_zero, List.set_cons_succ, R.toS_ok, R.bind_ok, R.toS_ite, R.bind_ite, SR.go_nx, SR.go_rt, SR.go_bk, SR.go_ct, SR.go_ite, SR.lp_nx, SR.lp_rt, SR.lp_bk, SR.lp_ct, SR.lp_ite, fin_nx, fin_rt, fin_ite, W.cb_bl, if_true, if_false, Bool.false_eq_true, eq_int, ne_int, eq_bl, ne_bl, mx2, mn2, int0, notW, truW, fdiv_ok, mod_ok, mul_okl, add_int, neg_int, int_bl, int_int, listLF_fl, listF_fl, listF_tup, listLF_tup, Int.reduceLT, Int.reduceLE, Int.reduceNeg, decide_true, decide_false, nxS, nxA, nxE, R.nox_ok, R.nox_ite, SR.nox_nx, SR.nox_rt, SR.nox_ite, R.bind_ex, R.toS_ex, SR.go_ex, fin_ex, ej]
    exact lp

/-! without -/
def r_without : List W → Sto → R W := bodyD 4 (rtS (clE (d_fitted 20) (axc (clE (d_taken_out 20) (axc (clE (d_fitted 20) (axc (vr 0) (axc (vr 1) (axc (vr 2) axn)))) (axc (vr 3) axn))) (axc (vr 1) (axc (vr 2) axn)))))
def d_without : List W → Sto → R W := pureF (fun a : Lay × Int × Int × Int => [layW a.1, .int a.2.1, .int a.2.2.1, .int a.2.2.2]) (fun a => Sound 20 a.1 ∧ a.2.1 ≤ 1000 ∧ a.2.2.1 ≤ 1000 ∧ ∃ b ps, a.1 = .node b ps) (fun a => layW (a.1.without a.2.1 a.2.2.1 a.2.2.2))
theorem without_ok {L : Lay} {w h q : Int} {st : Sto} (g : Sound 20 L) (hw : w ≤ 1000) (hh : h ≤ 1000) (hn : ∃ b ps, L = .node b ps) : d_without [layW L, .int w, .int h, .int q] st = .ok (layW (L.without w h q)) st :=
  pureF_ok (fun a b e => lay4_enc e) (a := (L, w, h, q)) ⟨g, hw, hh, hn⟩
theorem gz_without : Gz 4 r_without d_without := by
  refine gz_pureF0 (fun a _ => lay_cl _) fun ⟨L, w, h, q⟩ st ⟨s, hw, hh, b, ps, e⟩ => ⟨[], ?_⟩
  have s : Sound 20 L := s
  have hw : w ≤ 1000 := hw
  have hh : h ≤ 1000 := hh
  have e : L = .node b ps := e
  have hn : L ≠ .pane q := fun z => by rw [e] at z; cases z
  show r_without [layW L, .int w, .int h, .int q] st = .ok (layW (L.without w h q)) (st ++ [])
  rw [List.append_nil]
  have q2 := fitted_ok (w := w) (h := h) (st := st) (s.good (n := 20) (by omega) (by omega)) (by omega)
  have f := s.fit (by omega) hw hh
  have q3 := taken_out_ok (q := q) (st := st) (f.good (n := 20) (by omega) (by omega)) (by omega) f.nd (by rw [e, fit_node]; exact ⟨_, _, rfl⟩)
  obtain ⟨t, _⟩ := Sound.taken f.nd f.ln (s.fitOk (by omega) hw hh).1 (by omega) (by omega) (fit_ne (w := w) (k := h) hn)
  have q4 := fitted_ok (w := w) (h := h) (st := st) (t.good (n := 20) (by omega) (by omega)) (by omega)
  unfold r_without Lay.without
  simp only [bodyD, pad, sqS, ifS, orB, andB, notB, tb, bn, un, vr, kk, rtS, rnS, exS, orE, andE, chn, ifE, trB, passS, noS, setS, asgS, parS, axc, axn, flE, lsE, tupE, clE, mthE, mkE, lmE, forS, sqI, rg1, rg2, gSb, gFd, setFS, augFS, gNm, gTp, gsC, gsN, augS, augI, bkS, ctS, whS, slE, oxn, oxs, lpS, List.map_cons, List.map_nil, List.length_cons, List.length_nil, List.replicate, List.cons_append, List.nil_append, Nat.reduceAdd, Nat.reduceSub, List.getElem?_cons_succ, List.getElem?_cons_zero, List.set_cons_zero, List.set_cons_succ, R.toS_ok, R.bind_ok, R.toS_ite, R.bind_ite, SR.go_nx, SR.go_rt, SR.go_bk, SR.go_ct, SR.go_ite, SR.lp_nx, SR.lp_rt, SR.lp_bk, SR.lp_ct, SR.lp_ite, fin_nx, fin_rt, fin_ite, W.cb_bl, if_true, if_false, Bool.false_eq_true, eq_int, ne_int, eq_bl, ne_bl, mx2, mn2, int0, notW, truW, fdiv_ok, mod_ok, mul_okl, add_int, neg_int, int_bl, int_int, listLF_fl, listF_fl, listF_tup, listLF_tup, Int.reduceLT, Int.reduceLE, Int.reduceNeg, decide_true, decide_false, nxS, nxA, nxE, R.nox_ok, R.nox_ite, SR.nox_nx, SR.nox_rt, SR.nox_ite, R.bind_ex, R.toS_ex, SR.go_ex, fin_ex, q2, q3, q4]

/-! _law_step -/
def r__law_step : List W → Sto → R W := bodyD 10 (sqS (setS 5 (clE (d_panes 20) (axc (vr 0) axn))) (sqS (setS 6 (bn ixW (vr 5) (bn modW (vr 3) (clE lenF (axc (vr 5) axn))))) (sqS (setS 7 (bn ixW (flE (axc (kk (.str "beside")) (axc (kk (.str "below")) axn))) (bn modW (bn fdivW (vr 3) (kk (.int 11))) (kk (.int 2))))) (sqS (setS 8 (bn modW (bn fdivW (vr 3) (kk (.int 22))) (kk (.int 6)))) (sqS (ifS (tb (bn ltW (vr 8) (kk (.int 4)))) (tryS isx_NoRoom (rtS (tpWE (clE d_divided (nxA (axc (vr 0) (axc (vr 1) (axc (vr 2) (axc (vr 6) (axc (vr 7) (axc (vr 4) axn)))))))) (axc (bn addW (vr 5) (flE (axc (vr 4) axn))) axn))) (rtS (tupE (axc (vr 0) (axc (vr 5) axn))))) passS) (sqS (ifS (orB (tb (bn eqW (vr 8) (kk (.int 4)))) (tb (bn eqW (clE lenF (axc (vr 5) axn)) (kk (.int 1))))) (rtS (tupE (axc (clE d_moved (axc (vr 0) (axc (vr 1) (axc (vr 2) (axc (vr 6) (axc (vr 7) (axc (bn subW (bn modW (bn fdivW (vr 3) (kk (.int 132))) (kk (.int 41))) (kk (.int 20))) axn))))))) (axc (vr 5) axn)))) passS) (rtS (tupE (axc (clE d_without (axc (vr 0) (axc (vr 1) (axc (vr 2) (axc (vr 6) axn))))) (axc (lcE [9] (sqI (vr 5)) (ct1 9) (tb (bn neW (vr 9) (vr 6))) (vr 9)) axn))))))))))
abbrev d__law_step : List W → Sto → R W := r__law_step
/-! ### the law's look at a sheet -/
def rowW (F : Int → Int → Int) (w : Nat) (i : Int) : W := .fl ((List.range w).map fun (j : Nat) => W.int (F i (j : Int)))
theorem ixG {F : Int → Int → Int} {w h : Nat} {i : Int} (h0 : 0 ≤ i) (h1 : i < h) (s : Sto) : ixW (gridW F w h) (.int i) s = .ok (rowW F w i) s := by
  obtain ⟨k, rfl⟩ := Int.eq_ofNat_of_zero_le h0
  exact ixW_lst (seqOf_fl ..) (atI_nat (at_range (fun (i : Nat) => rowW F w i) (by omega)))
theorem ixV {F : Int → Int → Int} {w : Nat} {i j : Int} (h0 : 0 ≤ j) (h1 : j < w) (s : Sto) : ixW (rowW F w i) (.int j) s = .ok (.int (F i j)) s := by
  obtain ⟨k, rfl⟩ := Int.eq_ofNat_of_zero_le h0
  exact ixW_lst (seqOf_fl ..) (atI_nat (at_range (fun (j : Nat) => W.int (F i j)) (by omega)))
theorem in_two (x a b : Int) (s : Sto) : inW (.int x) (.fl [.int a, .int b]) s = .ok (.bl (decide (x = a ∨ x = b))) s := by
  have e : ∀ k : Int, (k == x) = decide (x = k) := fun k => by
    by_cases h : x = k
    · subst h; simp
    · have h2 : ¬ k = x := fun z => h z.symm
      rw [decide_eq_false h]; simpa using h2
  simp [bodyD, pad, sqS, ifS, orB, andB, notB, tb, bn, un, addW, mulW, negW, notW, mulOk, int0, intW, vr, kk, rtS, rnS, exS, orE, andE, chn, ifE, trB, truW, lstOf, seqOf, lstK, passS, noS, setS, asgS, parS, axc, axn, flE, lsE, tupE, clE, mthE, mkE, isIns, fldW, setFS, augFS, setFd, gFd, gNm, gTp, gsC, gsN, augS, lenF, absF, intF, allF, anyF, sumF, maxF, minF, listF, listLF, tupF, isiW, tyOf, Ty.le, ixW, lmE, appF, extF, popF, flatW, veqW, inW, ninW, forS, sqI, lpS, forL, rg1, rg2, slE, slF, slLF, oxn, oxs, inT, getT, isnW, nonW, isbW, nibW, idxF, firstI, gSb, setI, ixN, bkS, ctS, whS, eq_int, ne_int, eq_bl, ne_bl, atI_l0, atI_l1, atI_l2, atI_l3, intsOf_map, blsOf_map, intsOf_mapf, blsOf_mapf, intsOf_mapc, blsOf_mapc, lstK]
  simp only [e]
theorem nin_two (x a b : Int) (s : Sto) : ninW (.int x) (.fl [.int a, .int b]) s = .ok (.bl (!decide (x = a ∨ x = b))) s := by
  have e : ∀ k : Int, (k == x) = decide (x = k) := fun k => by
    by_cases h : x = k
    · subst h; simp
    · have h2 : ¬ k = x := fun z => h z.symm
      rw [decide_eq_false h]; simpa using h2
  simp [bodyD, pad, sqS, ifS, orB, andB, notB, tb, bn, un, addW, mulW, negW, notW, mulOk, int0, intW, vr, kk, rtS, rnS, exS, orE, andE, chn, ifE, trB, truW, lstOf, seqOf, lstK, passS, noS, setS, asgS, parS, axc, axn, flE, lsE, tupE, clE, mthE, mkE, isIns, fldW, setFS, augFS, setFd, gFd, gNm, gTp, gsC, gsN, augS, lenF, absF, intF, allF, anyF, sumF, maxF, minF, listF, listLF, tupF, isiW, tyOf, Ty.le, ixW, lmE, appF, extF, popF, flatW, veqW, inW, ninW, forS, sqI, lpS, forL, rg1, rg2, slE, slF, slLF, oxn, oxs, inT, getT, isnW, nonW, isbW, nibW, idxF, firstI, gSb, setI, ixN, bkS, ctS, whS, eq_int, ne_int, eq_bl, ne_bl, atI_l0, atI_l1, atI_l2, atI_l3, intsOf_map, blsOf_map, intsOf_mapf, blsOf_mapf, intsOf_mapc, blsOf_mapc, lstK]
  simp only [e]
theorem eq0_t {x : Int} (h : x = 0) : (x == 0) = true := by rw [h]; rfl
theorem eq0_f {x : Int} (h : ¬ x = 0) : (x == 0) = false := by simpa using h
theorem border_body {F : Int → Int → Int} {w h : Nat} (sh : Sheet F 0 0 w h) {r c : Int} (r0 : 0 ≤ r) (r1 : r < h) (c0 : 0 ≤ c) (c1 : c < w) (o5 o6 o7 o8 : Option W) (s : Sto) :
    ∃ p5 p6 p7 p8, b__law_borders_right_0 [some (gridW F w h), some (.int w), some (.int h), some (.int r), some (.int c), o5, o6, o7, o8] s = .nx [some (gridW F w h), some (.int w), some (.int h), some (.int r), some (.int c), p5, p6, p7, p8] s := by
  have g0 := fun s => ixG (F := F) (w := w) r0 r1 s
  have v0 := fun s => ixV (F := F) (i := r) c0 c1 s
  have gp : r + 1 < h → ∀ s, ixW (gridW F w h) (.int (r + 1)) s = .ok (rowW F w (r + 1)) s := fun z s => ixG (by omega) z s
  have gm : 0 < r → ∀ s, ixW (gridW F w h) (.int (r - 1)) s = .ok (rowW F w (r - 1)) s := fun z s => ixG (by omega) (by omega) s
  have vp : c + 1 < w → ∀ s, ixW (rowW F w r) (.int (c + 1)) s = .ok (.int (F r (c + 1))) s := fun z s => ixV (by omega) z s
  have vm : 0 < c → ∀ s, ixW (rowW F w r) (.int (c - 1)) s = .ok (.int (F r (c - 1))) s := fun z s => ixV (by omega) (by omega) s
  have up := fun s => ixV (F := F) (i := r + 1) c0 c1 s
  have um := fun s => ixV (F := F) (i := r - 1) c0 c1 s
  have upp : c + 1 < w → ∀ s, ixW (rowW F w (r + 1)) (.int (c + 1)) s = .ok (.int (F (r + 1) (c + 1))) s := fun z s => ixV (by omega) z s
  have n2 := fun x a b s => nin_two x a b s
  have i2 := fun x a b s => in_two x a b s
  generalize gridW F w h = G at *
  -- the two marks, the near ones
  obtain ⟨U, eU, hU⟩ : ∃ U : Bool, setS 6 (andE (chn ltW ltW (kk (.int 0)) (vr 4) (bn subW (vr 1) (kk (.int 1)))) (andE (bn neW (bn ixW (bn ixW (vr 0) (vr 3)) (bn subW (vr 4) (kk (.int 1)))) (kk (.int 0))) (bn neW (bn ixW (bn ixW (vr 0) (vr 3)) (bn addW (vr 4) (kk (.int 1)))) (kk (.int 0))))) [some G, some (.int w), some (.int h), some (.int r), some (.int c), some (.int (F r c)), o6, o7, o8] s = .nx [some G, some (.int w), some (.int h), some (.int r), some (.int c), some (.int (F r c)), some (.bl U), o7, o8] s ∧
      (U = true ↔ 0 < c ∧ c + 1 < w ∧ F r (c - 1) ≠ 0 ∧ F r (c + 1) ≠ 0) := by
    by_cases k1 : 0 < c
    · by_cases k2 : c < (w : Int) - 1
      · have vp := vp (by omega)
        have vm := vm k1
        by_cases k3 : F r (c - 1) = 0
        · have k3' := eq0_t k3
          exact ⟨false, by simp only [bodyD, pad, sqS, ifS, orB, andB, notB, tb, bn, un, vr, kk, rtS, rnS, exS, orE, andE, chn, ifE, trB, passS, noS, setS, asgS, parS, axc, axn, flE, lsE, tupE, clE, mthE, mkE, lmE, forS, sqI, rg1, rg2, gSb, gFd, setFS, augFS, gNm, gTp, gsC, gsN, augS, augI, bkS, ctS, whS, slE, oxn, oxs, lpS, List.map_cons, List.map_nil, List.length_cons, List.length_nil, List.replicate, List.cons_append, List.nil_append, Nat.reduceAdd, Nat.reduceSub, List.getElem?_cons_succ, List.getElem?_cons_zero, List.set_cons_zero, List.set_cons_succ, R.toS_ok, R.bind_ok, R.toS_ite, R.bind_ite, SR.go_nx, SR.go_rt, SR.go_bk, SR.go_ct, SR.go_ite, SR.lp_nx, SR.lp_rt, SR.lp_bk, SR.lp_ct, SR.lp_ite, fin_nx, fin_rt, fin_ite, W.cb_bl, if_true, if_false, Bool.false_eq_true, eq_int, ne_int, eq_bl, ne_bl, mx2, mn2, int0, notW, truW, fdiv_ok, mod_ok, mul_okl, add_int, neg_int, int_bl, int_int, listLF_fl, listF_fl, listF_tup, listLF_tup, Int.reduceLT, Int.reduceLE, Int.reduceNeg, decide_true, decide_false, nxS, nxA, nxE, R.nox_ok, R.nox_ite, SR.nox_nx, SR.nox_rt, SR.nox_ite, R.bind_ex, R.toS_ex, SR.go_ex, fin_ex, g0, vp, vm, k1, k2, k3', decide_true, Bool.not_true], by simp [k3]⟩
        · have k3' := eq0_f k3
          by_cases k4 : F r (c + 1) = 0
          · have k4' := eq0_t k4
            exact ⟨false, by simp only [bodyD, pad, sqS, ifS, orB, andB, notB, tb, bn, un, vr, kk, rtS, rnS, exS, orE, andE, chn, ifE, trB, passS, noS, setS, asgS, parS, axc, axn, flE, lsE, tupE, clE, mthE, mkE, lmE, forS, sqI, rg1, rg2, gSb, gFd, setFS, augFS, gNm, gTp, gsC, gsN, augS, augI, bkS, ctS, whS, slE, oxn, oxs, lpS, List.map_cons, List.map_nil, List.length_cons, List.length_nil, List.replicate, List.cons_append, List.nil_append, Nat.reduceAdd, Nat.reduceSub, List.getElem?_cons_succ, List.getElem?_cons_zero, List.set_cons_zero, List.set_cons_succ, R.toS_ok, R.bind_ok, R.toS_ite, R.bind_ite, SR.go_nx, SR.go_rt, SR.go_bk, SR.go_ct, SR.go_ite, SR.lp_nx, SR.lp_rt, SR.lp_bk, SR.lp_ct, SR.lp_ite, fin_nx, fin_rt, fin_ite, W.cb_bl, if_true, if_false, Bool.false_eq_true, eq_int, ne_int, eq_bl, ne_bl, mx2, mn2, int0, notW, truW, fdiv_ok, mod_ok, mul_okl, add_int, neg_int, int_bl, int_int, listLF_fl, listF_fl, listF_tup, listLF_tup, Int.reduceLT, Int.reduceLE, Int.reduceNeg, decide_true, decide_false, nxS, nxA, nxE, R.nox_ok, R.nox_ite, SR.nox_nx, SR.nox_rt, SR.nox_ite, R.bind_ex, R.toS_ex, SR.go_ex, fin_ex, g0, vp, vm, k1, k2, k3', k4', decide_true, Bool.not_true, Bool.not_false], by simp [k4]⟩
          · have k4' := eq0_f k4
            exact ⟨true, by simp only [bodyD, pad, sqS, ifS, orB, andB, notB, tb, bn, un, vr, kk, rtS, rnS, exS, orE, andE, chn, ifE, trB, passS, noS, setS, asgS, parS, axc, axn, flE, lsE, tupE, clE, mthE, mkE, lmE, forS, sqI, rg1, rg2, gSb, gFd, setFS, augFS, gNm, gTp, gsC, gsN, augS, augI, bkS, ctS, whS, slE, oxn, oxs, lpS, List.map_cons, List.map_nil, List.length_cons, List.length_nil, List.replicate, List.cons_append, List.nil_append, Nat.reduceAdd, Nat.reduceSub, List.getElem?_cons_succ, List.getElem?_cons_zero, List.set_cons_zero, List.set_cons_succ, R.toS_ok, R.bind_ok, R.toS_ite, R.bind_ite, SR.go_nx, SR.go_rt, SR.go_bk, SR.go_ct, SR.go_ite, SR.lp_nx, SR.lp_rt, SR.lp_bk, SR.lp_ct, SR.lp_ite, fin_nx, fin_rt, fin_ite, W.cb_bl, if_true, if_false, Bool.false_eq_true, eq_int, ne_int, eq_bl, ne_bl, mx2, mn2, int0, notW, truW, fdiv_ok, mod_ok, mul_okl, add_int, neg_int, int_bl, int_int, listLF_fl, listF_fl, listF_tup, listLF_tup, Int.reduceLT, Int.reduceLE, Int.reduceNeg, decide_true, decide_false, nxS, nxA, nxE, R.nox_ok, R.nox_ite, SR.nox_nx, SR.nox_rt, SR.nox_ite, R.bind_ex, R.toS_ex, SR.go_ex, fin_ex, g0, vp, vm, k1, k2, k3', k4', decide_true, Bool.not_true, Bool.not_false], by simp [k1, k3, k4]; omega⟩
      · exact ⟨false, by simp only [bodyD, pad, sqS, ifS, orB, andB, notB, tb, bn, un, vr, kk, rtS, rnS, exS, orE, andE, chn, ifE, trB, passS, noS, setS, asgS, parS, axc, axn, flE, lsE, tupE, clE, mthE, mkE, lmE, forS, sqI, rg1, rg2, gSb, gFd, setFS, augFS, gNm, gTp, gsC, gsN, augS, augI, bkS, ctS, whS, slE, oxn, oxs, lpS, List.map_cons, List.map_nil, List.length_cons, List.length_nil, List.replicate, List.cons_append, List.nil_append, Nat.reduceAdd, Nat.reduceSub, List.getElem?_cons_succ, List.getElem?_cons_zero, List.set_cons_zero, List.set_cons_succ, R.toS_ok, R.bind_ok, R.toS_ite, R.bind_ite, SR.go_nx, SR.go_rt, SR.go_bk, SR.go_ct, SR.go_ite, SR.lp_nx, SR.lp_rt, SR.lp_bk, SR.lp_ct, SR.lp_ite, fin_nx, fin_rt, fin_ite, W.cb_bl, if_true, if_false, Bool.false_eq_true, eq_int, ne_int, eq_bl, ne_bl, mx2, mn2, int0, notW, truW, fdiv_ok, mod_ok, mul_okl, add_int, neg_int, int_bl, int_int, listLF_fl, listF_fl, listF_tup, listLF_tup, Int.reduceLT, Int.reduceLE, Int.reduceNeg, decide_true, decide_false, nxS, nxA, nxE, R.nox_ok, R.nox_ite, SR.nox_nx, SR.nox_rt, SR.nox_ite, R.bind_ex, R.toS_ex, SR.go_ex, fin_ex, k1, k2, decide_true, decide_false], by simp; omega⟩
    · exact ⟨false, by simp only [bodyD, pad, sqS, ifS, orB, andB, notB, tb, bn, un, vr, kk, rtS, rnS, exS, orE, andE, chn, ifE, trB, passS, noS, setS, asgS, parS, axc, axn, flE, lsE, tupE, clE, mthE, mkE, lmE, forS, sqI, rg1, rg2, gSb, gFd, setFS, augFS, gNm, gTp, gsC, gsN, augS, augI, bkS, ctS, whS, slE, oxn, oxs, lpS, List.map_cons, List.map_nil, List.length_cons, List.length_nil, List.replicate, List.cons_append, List.nil_append, Nat.reduceAdd, Nat.reduceSub, List.getElem?_cons_succ, List.getElem?_cons_zero, List.set_cons_zero, List.set_cons_succ, R.toS_ok, R.bind_ok, R.toS_ite, R.bind_ite, SR.go_nx, SR.go_rt, SR.go_bk, SR.go_ct, SR.go_ite, SR.lp_nx, SR.lp_rt, SR.lp_bk, SR.lp_ct, SR.lp_ite, fin_nx, fin_rt, fin_ite, W.cb_bl, if_true, if_false, Bool.false_eq_true, eq_int, ne_int, eq_bl, ne_bl, mx2, mn2, int0, notW, truW, fdiv_ok, mod_ok, mul_okl, add_int, neg_int, int_bl, int_int, listLF_fl, listF_fl, listF_tup, listLF_tup, Int.reduceLT, Int.reduceLE, Int.reduceNeg, decide_true, decide_false, nxS, nxA, nxE, R.nox_ok, R.nox_ite, SR.nox_nx, SR.nox_rt, SR.nox_ite, R.bind_ex, R.toS_ex, SR.go_ex, fin_ex, k1, decide_false], by simp; omega⟩
  obtain ⟨V, eV, hV⟩ : ∃ V : Bool, setS 7 (andE (chn ltW ltW (kk (.int 0)) (vr 3) (bn subW (vr 2) (kk (.int 1)))) (andE (bn neW (bn ixW (bn ixW (vr 0) (bn subW (vr 3) (kk (.int 1)))) (vr 4)) (kk (.int 0))) (bn neW (bn ixW (bn ixW (vr 0) (bn addW (vr 3) (kk (.int 1)))) (vr 4)) (kk (.int 0))))) [some G, some (.int w), some (.int h), some (.int r), some (.int c), some (.int (F r c)), some (.bl U), o7, o8] s = .nx [some G, some (.int w), some (.int h), some (.int r), some (.int c), some (.int (F r c)), some (.bl U), some (.bl V), o8] s ∧
      (V = true ↔ 0 < r ∧ r + 1 < h ∧ F (r - 1) c ≠ 0 ∧ F (r + 1) c ≠ 0) := by
    by_cases k1 : 0 < r
    · by_cases k2 : r < (h : Int) - 1
      · have gp := gp (by omega)
        have gm := gm k1
        by_cases k3 : F (r - 1) c = 0
        · have k3' := eq0_t k3
          exact ⟨false, by simp only [bodyD, pad, sqS, ifS, orB, andB, notB, tb, bn, un, vr, kk, rtS, rnS, exS, orE, andE, chn, ifE, trB, passS, noS, setS, asgS, parS, axc, axn, flE, lsE, tupE, clE, mthE, mkE, lmE, forS, sqI, rg1, rg2, gSb, gFd, setFS, augFS, gNm, gTp, gsC, gsN, augS, augI, bkS, ctS, whS, slE, oxn, oxs, lpS, List.map_cons, List.map_nil, List.length_cons, List.length_nil, List.replicate, List.cons_append, List.nil_append, Nat.reduceAdd, Nat.reduceSub, List.getElem?_cons_succ, List.getElem?_cons_zero, List.set_cons_zero, List.set_cons_succ, R.toS_ok, R.bind_ok, R.toS_ite, R.bind_ite, SR.go_nx, SR.go_rt, SR.go_bk, SR.go_ct, SR.go_ite, SR.lp_nx, SR.lp_rt, SR.lp_bk, SR.lp_ct, SR.lp_ite, fin_nx, fin_rt, fin_ite, W.cb_bl, if_true, if_false, Bool.false_eq_true, eq_int, ne_int, eq_bl, ne_bl, mx2, mn2, int0, notW, truW, fdiv_ok, mod_ok, mul_okl, add_int, neg_int, int_bl, int_int, listLF_fl, listF_fl, listF_tup, listLF_tup, Int.reduceLT, Int.reduceLE, Int.reduceNeg, decide_true, decide_false, nxS, nxA, nxE, R.nox_ok, R.nox_ite, SR.nox_nx, SR.nox_rt, SR.nox_ite, R.bind_ex, R.toS_ex, SR.go_ex, fin_ex, gm, um, k1, k2, k3', decide_true, Bool.not_true], by simp [k3]⟩
        · have k3' := eq0_f k3
          by_cases k4 : F (r + 1) c = 0
          · have k4' := eq0_t k4
            exact ⟨false, by simp only [bodyD, pad, sqS, ifS, orB, andB, notB, tb, bn, un, vr, kk, rtS, rnS, exS, orE, andE, chn, ifE, trB, passS, noS, setS, asgS, parS, axc, axn, flE, lsE, tupE, clE, mthE, mkE, lmE, forS, sqI, rg1, rg2, gSb, gFd, setFS, augFS, gNm, gTp, gsC, gsN, augS, augI, bkS, ctS, whS, slE, oxn, oxs, lpS, List.map_cons, List.map_nil, List.length_cons, List.length_nil, List.replicate, List.cons_append, List.nil_append, Nat.reduceAdd, Nat.reduceSub, List.getElem?_cons_succ, List.getElem?_cons_zero, List.set_cons_zero, List.set_cons_succ, R.toS_ok, R.bind_ok, R.toS_ite, R.bind_ite, SR.go_nx, SR.go_rt, SR.go_bk, SR.go_ct, SR.go_ite, SR.lp_nx, SR.lp_rt, SR.lp_bk, SR.lp_ct, SR.lp_ite, fin_nx, fin_rt, fin_ite, W.cb_bl, if_true, if_false, Bool.false_eq_true, eq_int, ne_int, eq_bl, ne_bl, mx2, mn2, int0, notW, truW, fdiv_ok, mod_ok, mul_okl, add_int, neg_int, int_bl, int_int, listLF_fl, listF_fl, listF_tup, listLF_tup, Int.reduceLT, Int.reduceLE, Int.reduceNeg, decide_true, decide_false, nxS, nxA, nxE, R.nox_ok, R.nox_ite, SR.nox_nx, SR.nox_rt, SR.nox_ite, R.bind_ex, R.toS_ex, SR.go_ex, fin_ex, gp, gm, up, um, k1, k2, k3', k4', decide_true, Bool.not_true, Bool.not_false], by simp [k4]⟩
          · have k4' := eq0_f k4
            exact ⟨true, by simp only [bodyD, pad, sqS, ifS, orB, andB, notB, tb, bn, un, vr, kk, rtS, rnS, exS, orE, andE, chn, ifE, trB, passS, noS, setS, asgS, parS, axc, axn, flE, lsE, tupE, clE, mthE, mkE, lmE, forS, sqI, rg1, rg2, gSb, gFd, setFS, augFS, gNm, gTp, gsC, gsN, augS, augI, bkS, ctS, whS, slE, oxn, oxs, lpS, List.map_cons, List.map_nil, List.length_cons, List.length_nil, List.replicate, List.cons_append, List.nil_append, Nat.reduceAdd, Nat.reduceSub, List.getElem?_cons_succ, List.getElem?_cons_zero, List.set_cons_zero, List.set_cons_succ, R.toS_ok, R.bind_ok, R.toS_ite, R.bind_ite, SR.go_nx, SR.go_rt, SR.go_bk, SR.go_ct, SR.go_ite, SR.lp_nx, SR.lp_rt, SR.lp_bk, SR.lp_ct, SR.lp_ite, fin_nx, fin_rt, fin_ite, W.cb_bl, if_true, if_false, Bool.false_eq_true, eq_int, ne_int, eq_bl, ne_bl, mx2, mn2, int0, notW, truW, fdiv_ok, mod_ok, mul_okl, add_int, neg_int, int_bl, int_int, listLF_fl, listF_fl, listF_tup, listLF_tup, Int.reduceLT, Int.reduceLE, Int.reduceNeg, decide_true, decide_false, nxS, nxA, nxE, R.nox_ok, R.nox_ite, SR.nox_nx, SR.nox_rt, SR.nox_ite, R.bind_ex, R.toS_ex, SR.go_ex, fin_ex, gp, gm, up, um, k1, k2, k3', k4', decide_true, Bool.not_true, Bool.not_false], by simp [k1, k3, k4]; omega⟩
      · exact ⟨false, by simp only [bodyD, pad, sqS, ifS, orB, andB, notB, tb, bn, un, vr, kk, rtS, rnS, exS, orE, andE, chn, ifE, trB, passS, noS, setS, asgS, parS, axc, axn, flE, lsE, tupE, clE, mthE, mkE, lmE, forS, sqI, rg1, rg2, gSb, gFd, setFS, augFS, gNm, gTp, gsC, gsN, augS, augI, bkS, ctS, whS, slE, oxn, oxs, lpS, List.map_cons, List.map_nil, List.length_cons, List.length_nil, List.replicate, List.cons_append, List.nil_append, Nat.reduceAdd, Nat.reduceSub, List.getElem?_cons_succ, List.getElem?_cons_zero, List.set_cons_zero, List.set_cons_succ, R.toS_ok, R.bind_ok, R.toS_ite, R.bind_ite, SR.go_nx, SR.go_rt, SR.go_bk, SR.go_ct, SR.go_ite, SR.lp_nx, SR.lp_rt, SR.lp_bk, SR.lp_ct, SR.lp_ite, fin_nx, fin_rt, fin_ite, W.cb_bl, if_true, if_false, Bool.false_eq_true, eq_int, ne_int, eq_bl, ne_bl, mx2, mn2, int0, notW, truW, fdiv_ok, mod_ok, mul_okl, add_int, neg_int, int_bl, int_int, listLF_fl, listF_fl, listF_tup, listLF_tup, Int.reduceLT, Int.reduceLE, Int.reduceNeg, decide_true, decide_false, nxS, nxA, nxE, R.nox_ok, R.nox_ite, SR.nox_nx, SR.nox_rt, SR.nox_ite, R.bind_ex, R.toS_ex, SR.go_ex, fin_ex, k1, k2, decide_true, decide_false], by simp; omega⟩
    · exact ⟨false, by simp only [bodyD, pad, sqS, ifS, orB, andB, notB, tb, bn, un, vr, kk, rtS, rnS, exS, orE, andE, chn, ifE, trB, passS, noS, setS, asgS, parS, axc, axn, flE, lsE, tupE, clE, mthE, mkE, lmE, forS, sqI, rg1, rg2, gSb, gFd, setFS, augFS, gNm, gTp, gsC, gsN, augS, augI, bkS, ctS, whS, slE, oxn, oxs, lpS, List.map_cons, List.map_nil, List.length_cons, List.length_nil, List.replicate, List.cons_append, List.nil_append, Nat.reduceAdd, Nat.reduceSub, List.getElem?_cons_succ, List.getElem?_cons_zero, List.set_cons_zero, List.set_cons_succ, R.toS_ok, R.bind_ok, R.toS_ite, R.bind_ite, SR.go_nx, SR.go_rt, SR.go_bk, SR.go_ct, SR.go_ite, SR.lp_nx, SR.lp_rt, SR.lp_bk, SR.lp_ct, SR.lp_ite, fin_nx, fin_rt, fin_ite, W.cb_bl, if_true, if_false, Bool.false_eq_true, eq_int, ne_int, eq_bl, ne_bl, mx2, mn2, int0, notW, truW, fdiv_ok, mod_ok, mul_okl, add_int, neg_int, int_bl, int_int, listLF_fl, listF_fl, listF_tup, listLF_tup, Int.reduceLT, Int.reduceLE, Int.reduceNeg, decide_true, decide_false, nxS, nxA, nxE, R.nox_ok, R.nox_ite, SR.nox_nx, SR.nox_rt, SR.nox_ite, R.bind_ex, R.toS_ex, SR.go_ex, fin_ex, k1, decide_false], by simp; omega⟩
  obtain ⟨N, eN, hN⟩ : ∃ N : Bool, setS 8 (orE (andE (bn ltW (kk (.int 0)) (vr 4)) (bn eqW (bn ixW (bn ixW (vr 0) (vr 3)) (bn subW (vr 4) (kk (.int 1)))) (kk (.int 0)))) (andE (bn ltW (bn addW (vr 4) (kk (.int 1))) (vr 1)) (bn eqW (bn ixW (bn ixW (vr 0) (vr 3)) (bn addW (vr 4) (kk (.int 1)))) (kk (.int 0))))) [some G, some (.int w), some (.int h), some (.int r), some (.int c), some (.int (F r c)), some (.bl U), some (.bl V), o8] s = .nx [some G, some (.int w), some (.int h), some (.int r), some (.int c), some (.int (F r c)), some (.bl U), some (.bl V), some (.bl N)] s ∧
      (N = true ↔ (0 < c ∧ F r (c - 1) = 0) ∨ (c + 1 < w ∧ F r (c + 1) = 0)) := by
    by_cases k1 : 0 < c
    · have vm := vm k1
      by_cases k3 : F r (c - 1) = 0
      · have k3' := eq0_t k3
        exact ⟨true, by simp only [bodyD, pad, sqS, ifS, orB, andB, notB, tb, bn, un, vr, kk, rtS, rnS, exS, orE, andE, chn, ifE, trB, passS, noS, setS, asgS, parS, axc, axn, flE, lsE, tupE, clE, mthE, mkE, lmE, forS, sqI, rg1, rg2, gSb, gFd, setFS, augFS, gNm, gTp, gsC, gsN, augS, augI, bkS, ctS, whS, slE, oxn, oxs, lpS, List.map_cons, List.map_nil, List.length_cons, List.length_nil, List.replicate, List.cons_append, List.nil_append, Nat.reduceAdd, Nat.reduceSub, List.getElem?_cons_succ, List.getElem?_cons_zero, List.set_cons_zero, List.set_cons_succ, R.toS_ok, R.bind_ok, R.toS_ite, R.bind_ite, SR.go_nx, SR.go_rt, SR.go_bk, SR.go_ct, SR.go_ite, SR.lp_nx, SR.lp_rt, SR.lp_bk, SR.lp_ct, SR.lp_ite, fin_nx, fin_rt, fin_ite, W.cb_bl, if_true, if_false, Bool.false_eq_true, eq_int, ne_int, eq_bl, ne_bl, mx2, mn2, int0, notW, truW, fdiv_ok, mod_ok, mul_okl, add_int, neg_int, int_bl, int_int, listLF_fl, listF_fl, listF_tup, listLF_tup, Int.reduceLT, Int.reduceLE, Int.reduceNeg, decide_true, decide_false, nxS, nxA, nxE, R.nox_ok, R.nox_ite, SR.nox_nx, SR.nox_rt, SR.nox_ite, R.bind_ex, R.toS_ex, SR.go_ex, fin_ex, g0, vm, k1, k3', decide_true], by simp [k1, k3]⟩
      · have k3' := eq0_f k3
        by_cases k2 : c + 1 < w
        · have vp := vp k2
          exact ⟨F r (c + 1) == 0, by simp only [bodyD, pad, sqS, ifS, orB, andB, notB, tb, bn, un, vr, kk, rtS, rnS, exS, orE, andE, chn, ifE, trB, passS, noS, setS, asgS, parS, axc, axn, flE, lsE, tupE, clE, mthE, mkE, lmE, forS, sqI, rg1, rg2, gSb, gFd, setFS, augFS, gNm, gTp, gsC, gsN, augS, augI, bkS, ctS, whS, slE, oxn, oxs, lpS, List.map_cons, List.map_nil, List.length_cons, List.length_nil, List.replicate, List.cons_append, List.nil_append, Nat.reduceAdd, Nat.reduceSub, List.getElem?_cons_succ, List.getElem?_cons_zero, List.set_cons_zero, List.set_cons_succ, R.toS_ok, R.bind_ok, R.toS_ite, R.bind_ite, SR.go_nx, SR.go_rt, SR.go_bk, SR.go_ct, SR.go_ite, SR.lp_nx, SR.lp_rt, SR.lp_bk, SR.lp_ct, SR.lp_ite, fin_nx, fin_rt, fin_ite, W.cb_bl, if_true, if_false, Bool.false_eq_true, eq_int, ne_int, eq_bl, ne_bl, mx2, mn2, int0, notW, truW, fdiv_ok, mod_ok, mul_okl, add_int, neg_int, int_bl, int_int, listLF_fl, listF_fl, listF_tup, listLF_tup, Int.reduceLT, Int.reduceLE, Int.reduceNeg, decide_true, decide_false, nxS, nxA, nxE, R.nox_ok, R.nox_ite, SR.nox_nx, SR.nox_rt, SR.nox_ite, R.bind_ex, R.toS_ex, SR.go_ex, fin_ex, g0, vm, vp, k1, k2, k3', decide_true], by simp [k3, k2]⟩
        · exact ⟨false, by simp only [bodyD, pad, sqS, ifS, orB, andB, notB, tb, bn, un, vr, kk, rtS, rnS, exS, orE, andE, chn, ifE, trB, passS, noS, setS, asgS, parS, axc, axn, flE, lsE, tupE, clE, mthE, mkE, lmE, forS, sqI, rg1, rg2, gSb, gFd, setFS, augFS, gNm, gTp, gsC, gsN, augS, augI, bkS, ctS, whS, slE, oxn, oxs, lpS, List.map_cons, List.map_nil, List.length_cons, List.length_nil, List.replicate, List.cons_append, List.nil_append, Nat.reduceAdd, Nat.reduceSub, List.getElem?_cons_succ, List.getElem?_cons_zero, List.set_cons_zero, List.set_cons_succ, R.toS_ok, R.bind_ok, R.toS_ite, R.bind_ite, SR.go_nx, SR.go_rt, SR.go_bk, SR.go_ct, SR.go_ite, SR.lp_nx, SR.lp_rt, SR.lp_bk, SR.lp_ct, SR.lp_ite, fin_nx, fin_rt, fin_ite, W.cb_bl, if_true, if_false, Bool.false_eq_true, eq_int, ne_int, eq_bl, ne_bl, mx2, mn2, int0, notW, truW, fdiv_ok, mod_ok, mul_okl, add_int, neg_int, int_bl, int_int, listLF_fl, listF_fl, listF_tup, listLF_tup, Int.reduceLT, Int.reduceLE, Int.reduceNeg, decide_true, decide_false, nxS, nxA, nxE, R.nox_ok, R.nox_ite, SR.nox_nx, SR.nox_rt, SR.nox_ite, R.bind_ex, R.toS_ex, SR.go_ex, fin_ex, g0, vm, k1, k2, k3', decide_true, decide_false], by simp [k3, k2]⟩
    · by_cases k2 : c + 1 < w
      · have vp := vp k2
        exact ⟨F r (c + 1) == 0, by simp only [bodyD, pad, sqS, ifS, orB, andB, notB, tb, bn, un, vr, kk, rtS, rnS, exS, orE, andE, chn, ifE, trB, passS, noS, setS, asgS, parS, axc, axn, flE, lsE, tupE, clE, mthE, mkE, lmE, forS, sqI, rg1, rg2, gSb, gFd, setFS, augFS, gNm, gTp, gsC, gsN, augS, augI, bkS, ctS, whS, slE, oxn, oxs, lpS, List.map_cons, List.map_nil, List.length_cons, List.length_nil, List.replicate, List.cons_append, List.nil_append, Nat.reduceAdd, Nat.reduceSub, List.getElem?_cons_succ, List.getElem?_cons_zero, List.set_cons_zero, List.set_cons_succ, R.toS_ok, R.bind_ok, R.toS_ite, R.bind_ite, SR.go_nx, SR.go_rt, SR.go_bk, SR.go_ct, SR.go_ite, SR.lp_nx, SR.lp_rt, SR.lp_bk, SR.lp_ct, SR.lp_ite, fin_nx, fin_rt, fin_ite, W.cb_bl, if_true, if_false, Bool.false_eq_true, eq_int, ne_int, eq_bl, ne_bl, mx2, mn2, int0, notW, truW, fdiv_ok, mod_ok, mul_okl, add_int, neg_int, int_bl, int_int, listLF_fl, listF_fl, listF_tup, listLF_tup, Int.reduceLT, Int.reduceLE, Int.reduceNeg, decide_true, decide_false, nxS, nxA, nxE, R.nox_ok, R.nox_ite, SR.nox_nx, SR.nox_rt, SR.nox_ite, R.bind_ex, R.toS_ex, SR.go_ex, fin_ex, g0, vp, k1, k2, decide_true, decide_false], by simp [k1, k2]⟩
      · exact ⟨false, by simp only [bodyD, pad, sqS, ifS, orB, andB, notB, tb, bn, un, vr, kk, rtS, rnS, exS, orE, andE, chn, ifE, trB, passS, noS, setS, asgS, parS, axc, axn, flE, lsE, tupE, clE, mthE, mkE, lmE, forS, sqI, rg1, rg2, gSb, gFd, setFS, augFS, gNm, gTp, gsC, gsN, augS, augI, bkS, ctS, whS, slE, oxn, oxs, lpS, List.map_cons, List.map_nil, List.length_cons, List.length_nil, List.replicate, List.cons_append, List.nil_append, Nat.reduceAdd, Nat.reduceSub, List.getElem?_cons_succ, List.getElem?_cons_zero, List.set_cons_zero, List.set_cons_succ, R.toS_ok, R.bind_ok, R.toS_ite, R.bind_ite, SR.go_nx, SR.go_rt, SR.go_bk, SR.go_ct, SR.go_ite, SR.lp_nx, SR.lp_rt, SR.lp_bk, SR.lp_ct, SR.lp_ite, fin_nx, fin_rt, fin_ite, W.cb_bl, if_true, if_false, Bool.false_eq_true, eq_int, ne_int, eq_bl, ne_bl, mx2, mn2, int0, notW, truW, fdiv_ok, mod_ok, mul_okl, add_int, neg_int, int_bl, int_int, listLF_fl, listF_fl, listF_tup, listLF_tup, Int.reduceLT, Int.reduceLE, Int.reduceNeg, decide_true, decide_false, nxS, nxA, nxE, R.nox_ok, R.nox_ite, SR.nox_nx, SR.nox_rt, SR.nox_ite, R.bind_ex, R.toS_ex, SR.go_ex, fin_ex, k1, k2, decide_true, decide_false], by simp [k1, k2]⟩
  obtain ⟨M, eM, hM⟩ : ∃ M : Bool, setS 8 (orE (vr 8) (orE (andE (bn ltW (kk (.int 0)) (vr 3)) (bn eqW (bn ixW (bn ixW (vr 0) (bn subW (vr 3) (kk (.int 1)))) (vr 4)) (kk (.int 0)))) (andE (bn ltW (bn addW (vr 3) (kk (.int 1))) (vr 2)) (bn eqW (bn ixW (bn ixW (vr 0) (bn addW (vr 3) (kk (.int 1)))) (vr 4)) (kk (.int 0)))))) [some G, some (.int w), some (.int h), some (.int r), some (.int c), some (.int (F r c)), some (.bl U), some (.bl V), some (.bl N)] s = .nx [some G, some (.int w), some (.int h), some (.int r), some (.int c), some (.int (F r c)), some (.bl U), some (.bl V), some (.bl M)] s ∧ (N = true → M = true) := by
    cases N with
    | true => exact ⟨true, by simp only [bodyD, pad, sqS, ifS, orB, andB, notB, tb, bn, un, vr, kk, rtS, rnS, exS, orE, andE, chn, ifE, trB, passS, noS, setS, asgS, parS, axc, axn, flE, lsE, tupE, clE, mthE, mkE, lmE, forS, sqI, rg1, rg2, gSb, gFd, setFS, augFS, gNm, gTp, gsC, gsN, augS, augI, bkS, ctS, whS, slE, oxn, oxs, lpS, List.map_cons, List.map_nil, List.length_cons, List.length_nil, List.replicate, List.cons_append, List.nil_append, Nat.reduceAdd, Nat.reduceSub, List.getElem?_cons_succ, List.getElem?_cons_zero, List.set_cons_zero, List.set_cons_succ, R.toS_ok, R.bind_ok, R.toS_ite, R.bind_ite, SR.go_nx, SR.go_rt, SR.go_bk, SR.go_ct, SR.go_ite, SR.lp_nx, SR.lp_rt, SR.lp_bk, SR.lp_ct, SR.lp_ite, fin_nx, fin_rt, fin_ite, W.cb_bl, if_true, if_false, Bool.false_eq_true, eq_int, ne_int, eq_bl, ne_bl, mx2, mn2, int0, notW, truW, fdiv_ok, mod_ok, mul_okl, add_int, neg_int, int_bl, int_int, listLF_fl, listF_fl, listF_tup, listLF_tup, Int.reduceLT, Int.reduceLE, Int.reduceNeg, decide_true, decide_false, nxS, nxA, nxE, R.nox_ok, R.nox_ite, SR.nox_nx, SR.nox_rt, SR.nox_ite, R.bind_ex, R.toS_ex, SR.go_ex, fin_ex], fun _ => rfl⟩
    | false =>
      by_cases k1 : 0 < r
      · have gm := gm k1
        by_cases k3 : F (r - 1) c = 0
        · have k3' := eq0_t k3
          exact ⟨true, by simp only [bodyD, pad, sqS, ifS, orB, andB, notB, tb, bn, un, vr, kk, rtS, rnS, exS, orE, andE, chn, ifE, trB, passS, noS, setS, asgS, parS, axc, axn, flE, lsE, tupE, clE, mthE, mkE, lmE, forS, sqI, rg1, rg2, gSb, gFd, setFS, augFS, gNm, gTp, gsC, gsN, augS, augI, bkS, ctS, whS, slE, oxn, oxs, lpS, List.map_cons, List.map_nil, List.length_cons, List.length_nil, List.replicate, List.cons_append, List.nil_append, Nat.reduceAdd, Nat.reduceSub, List.getElem?_cons_succ, List.getElem?_cons_zero, List.set_cons_zero, List.set_cons_succ, R.toS_ok, R.bind_ok, R.toS_ite, R.bind_ite, SR.go_nx, SR.go_rt, SR.go_bk, SR.go_ct, SR.go_ite, SR.lp_nx, SR.lp_rt, SR.lp_bk, SR.lp_ct, SR.lp_ite, fin_nx, fin_rt, fin_ite, W.cb_bl, if_true, if_false, Bool.false_eq_true, eq_int, ne_int, eq_bl, ne_bl, mx2, mn2, int0, notW, truW, fdiv_ok, mod_ok, mul_okl, add_int, neg_int, int_bl, int_int, listLF_fl, listF_fl, listF_tup, listLF_tup, Int.reduceLT, Int.reduceLE, Int.reduceNeg, decide_true, decide_false, nxS, nxA, nxE, R.nox_ok, R.nox_ite, SR.nox_nx, SR.nox_rt, SR.nox_ite, R.bind_ex, R.toS_ex, SR.go_ex, fin_ex, gm, um, k1, k3', decide_true], fun z => Bool.noConfusion z⟩
        · have k3' := eq0_f k3
          by_cases k2 : r + 1 < h
          · have gp := gp k2
            exact ⟨F (r + 1) c == 0, by simp only [bodyD, pad, sqS, ifS, orB, andB, notB, tb, bn, un, vr, kk, rtS, rnS, exS, orE, andE, chn, ifE, trB, passS, noS, setS, asgS, parS, axc, axn, flE, lsE, tupE, clE, mthE, mkE, lmE, forS, sqI, rg1, rg2, gSb, gFd, setFS, augFS, gNm, gTp, gsC, gsN, augS, augI, bkS, ctS, whS, slE, oxn, oxs, lpS, List.map_cons, List.map_nil, List.length_cons, List.length_nil, List.replicate, List.cons_append, List.nil_append, Nat.reduceAdd, Nat.reduceSub, List.getElem?_cons_succ, List.getElem?_cons_zero, List.set_cons_zero, List.set_cons_succ, R.toS_ok, R.bind_ok, R.toS_ite, R.bind_ite, SR.go_nx, SR.go_rt, SR.go_bk, SR.go_ct, SR.go_ite, SR.lp_nx, SR.lp_rt, SR.lp_bk, SR.lp_ct, SR.lp_ite, fin_nx, fin_rt, fin_ite, W.cb_bl, if_true, if_false, Bool.false_eq_true, eq_int, ne_int, eq_bl, ne_bl, mx2, mn2, int0, notW, truW, fdiv_ok, mod_ok, mul_okl, add_int, neg_int, int_bl, int_int, listLF_fl, listF_fl, listF_tup, listLF_tup, Int.reduceLT, Int.reduceLE, Int.reduceNeg, decide_true, decide_false, nxS, nxA, nxE, R.nox_ok, R.nox_ite, SR.nox_nx, SR.nox_rt, SR.nox_ite, R.bind_ex, R.toS_ex, SR.go_ex, fin_ex, gm, um, gp, up, k1, k2, k3', decide_true], fun z => Bool.noConfusion z⟩
          · exact ⟨false, by simp only [bodyD, pad, sqS, ifS, orB, andB, notB, tb, bn, un, vr, kk, rtS, rnS, exS, orE, andE, chn, ifE, trB, passS, noS, setS, asgS, parS, axc, axn, flE, lsE, tupE, clE, mthE, mkE, lmE, forS, sqI, rg1, rg2, gSb, gFd, setFS, augFS, gNm, gTp, gsC, gsN, augS, augI, bkS, ctS, whS, slE, oxn, oxs, lpS, List.map_cons, List.map_nil, List.length_cons, List.length_nil, List.replicate, List.cons_append, List.nil_append, Nat.reduceAdd, Nat.reduceSub, List.getElem?_cons_succ, List.getElem?_cons_zero, List.set_cons_zero, List.set_cons_succ, R.toS_ok, R.bind_ok, R.toS_ite, R.bind_ite, SR.go_nx, SR.go_rt, SR.go_bk, SR.go_ct, SR.go_ite, SR.lp_nx, SR.lp_rt, SR.lp_bk, SR.lp_ct, SR.lp_ite, fin_nx, fin_rt, fin_ite, W.cb_bl, if_true, if_false, Bool.false_eq_true, eq_int, ne_int, eq_bl, ne_bl, mx2, mn2, int0, notW, truW, fdiv_ok, mod_ok, mul_okl, add_int, neg_int, int_bl, int_int, listLF_fl, listF_fl, listF_tup, listLF_tup, Int.reduceLT, Int.reduceLE, Int.reduceNeg, decide_true, decide_false, nxS, nxA, nxE, R.nox_ok, R.nox_ite, SR.nox_nx, SR.nox_rt, SR.nox_ite, R.bind_ex, R.toS_ex, SR.go_ex, fin_ex, gm, um, k1, k2, k3', decide_true, decide_false], fun z => Bool.noConfusion z⟩
      · by_cases k2 : r + 1 < h
        · have gp := gp k2
          exact ⟨F (r + 1) c == 0, by simp only [bodyD, pad, sqS, ifS, orB, andB, notB, tb, bn, un, vr, kk, rtS, rnS, exS, orE, andE, chn, ifE, trB, passS, noS, setS, asgS, parS, axc, axn, flE, lsE, tupE, clE, mthE, mkE, lmE, forS, sqI, rg1, rg2, gSb, gFd, setFS, augFS, gNm, gTp, gsC, gsN, augS, augI, bkS, ctS, whS, slE, oxn, oxs, lpS, List.map_cons, List.map_nil, List.length_cons, List.length_nil, List.replicate, List.cons_append, List.nil_append, Nat.reduceAdd, Nat.reduceSub, List.getElem?_cons_succ, List.getElem?_cons_zero, List.set_cons_zero, List.set_cons_succ, R.toS_ok, R.bind_ok, R.toS_ite, R.bind_ite, SR.go_nx, SR.go_rt, SR.go_bk, SR.go_ct, SR.go_ite, SR.lp_nx, SR.lp_rt, SR.lp_bk, SR.lp_ct, SR.lp_ite, fin_nx, fin_rt, fin_ite, W.cb_bl, if_true, if_false, Bool.false_eq_true, eq_int, ne_int, eq_bl, ne_bl, mx2, mn2, int0, notW, truW, fdiv_ok, mod_ok, mul_okl, add_int, neg_int, int_bl, int_int, listLF_fl, listF_fl, listF_tup, listLF_tup, Int.reduceLT, Int.reduceLE, Int.reduceNeg, decide_true, decide_false, nxS, nxA, nxE, R.nox_ok, R.nox_ite, SR.nox_nx, SR.nox_rt, SR.nox_ite, R.bind_ex, R.toS_ex, SR.go_ex, fin_ex, gp, up, k1, k2, decide_true, decide_false], fun z => Bool.noConfusion z⟩
        · exact ⟨false, by simp only [bodyD, pad, sqS, ifS, orB, andB, notB, tb, bn, un, vr, kk, rtS, rnS, exS, orE, andE, chn, ifE, trB, passS, noS, setS, asgS, parS, axc, axn, flE, lsE, tupE, clE, mthE, mkE, lmE, forS, sqI, rg1, rg2, gSb, gFd, setFS, augFS, gNm, gTp, gsC, gsN, augS, augI, bkS, ctS, whS, slE, oxn, oxs, lpS, List.map_cons, List.map_nil, List.length_cons, List.length_nil, List.replicate, List.cons_append, List.nil_append, Nat.reduceAdd, Nat.reduceSub, List.getElem?_cons_succ, List.getElem?_cons_zero, List.set_cons_zero, List.set_cons_succ, R.toS_ok, R.bind_ok, R.toS_ite, R.bind_ite, SR.go_nx, SR.go_rt, SR.go_bk, SR.go_ct, SR.go_ite, SR.lp_nx, SR.lp_rt, SR.lp_bk, SR.lp_ct, SR.lp_ite, fin_nx, fin_rt, fin_ite, W.cb_bl, if_true, if_false, Bool.false_eq_true, eq_int, ne_int, eq_bl, ne_bl, mx2, mn2, int0, notW, truW, fdiv_ok, mod_ok, mul_okl, add_int, neg_int, int_bl, int_int, listLF_fl, listF_fl, listF_tup, listLF_tup, Int.reduceLT, Int.reduceLE, Int.reduceNeg, decide_true, decide_false, nxS, nxA, nxE, R.nox_ok, R.nox_ite, SR.nox_nx, SR.nox_rt, SR.nox_ite, R.bind_ex, R.toS_ex, SR.go_ex, fin_ex, k1, k2, decide_true, decide_false], fun z => Bool.noConfusion z⟩
  have out : F r c = 0 → (U = true ∨ V = true ∨ M = true) ∧ ((r = 0 ∨ r = (h : Int) - 1) → U = true) ∧ ((c = 0 ∨ c = (w : Int) - 1) → V = true) := fun z => by
    have t : (r = 0 ∨ r = (h : Int) - 1) → U = true := fun y => by
      obtain ⟨a1, a2, a3, a4⟩ := sh.top r c (by omega) c0 (by omega) z
      exact hU.mpr ⟨a1, by omega, a3, a4⟩
    have d : (c = 0 ∨ c = (w : Int) - 1) → V = true := fun y => by
      obtain ⟨a1, a2, a3, a4⟩ := sh.side r c (by omega) r0 (by omega) z
      exact hV.mpr ⟨a1, by omega, a3, a4⟩
    refine ⟨?_, t, d⟩
    by_cases y : c = 0 ∨ c = (w : Int) - 1
    · exact .inr (.inl (d y))
    · by_cases y2 : F r (c - 1) = 0
      · exact .inr (.inr (hM (hN.mpr (.inl ⟨by omega, y2⟩))))
      · by_cases y3 : F r (c + 1) = 0
        · exact .inr (.inr (hM (hN.mpr (.inr ⟨by omega, y3⟩))))
        · exact .inl (hU.mpr ⟨by omega, by omega, y2, y3⟩)
  refine ⟨some (.int (F r c)), some (.bl U), some (.bl V), some (.bl M), ?_⟩
  unfold b__law_borders_right_0
  rw [sq_nx (e := [some G, some (.int w), some (.int h), some (.int r), some (.int c), some (.int (F r c)), o6, o7, o8]) (s := s) (by simp only [bodyD, pad, sqS, ifS, orB, andB, notB, tb, bn, un, vr, kk, rtS, rnS, exS, orE, andE, chn, ifE, trB, passS, noS, setS, asgS, parS, axc, axn, flE, lsE, tupE, clE, mthE, mkE, lmE, forS, sqI, rg1, rg2, gSb, gFd, setFS, augFS, gNm, gTp, gsC, gsN, augS, augI, bkS, ctS, whS, slE, oxn, oxs, lpS, List.map_cons, List.map_nil, List.length_cons, List.length_nil, List.replicate, List.cons_append, List.nil_append, Nat.reduceAdd, Nat.reduceSub, List.getElem?_cons_succ, List.getElem?_cons_zero, List.set_cons_zero, List.set_cons_succ, R.toS_ok, R.bind_ok, R.toS_ite, R.bind_ite, SR.go_nx, SR.go_rt, SR.go_bk, SR.go_ct, SR.go_ite, SR.lp_nx, SR.lp_rt, SR.lp_bk, SR.lp_ct, SR.lp_ite, fin_nx, fin_rt, fin_ite, W.cb_bl, if_true, if_false, Bool.false_eq_true, eq_int, ne_int, eq_bl, ne_bl, mx2, mn2, int0, notW, truW, fdiv_ok, mod_ok, mul_okl, add_int, neg_int, int_bl, int_int, listLF_fl, listF_fl, listF_tup, listLF_tup, Int.reduceLT, Int.reduceLE, Int.reduceNeg, decide_true, decide_false, nxS, nxA, nxE, R.nox_ok, R.nox_ite, SR.nox_nx, SR.nox_rt, SR.nox_ite, R.bind_ex, R.toS_ex, SR.go_ex, fin_ex, g0, v0])]
  rw [sq_nx (e := [some G, some (.int w), some (.int h), some (.int r), some (.int c), some (.int (F r c)), o6, o7, o8]) (s := s) (by
    by_cases z : F r c = 0
    · have z := eq0_t z
      simp only [bodyD, pad, sqS, ifS, orB, andB, notB, tb, bn, un, vr, kk, rtS, rnS, exS, orE, andE, chn, ifE, trB, passS, noS, setS, asgS, parS, axc, axn, flE, lsE, tupE, clE, mthE, mkE, lmE, forS, sqI, rg1, rg2, gSb, gFd, setFS, augFS, gNm, gTp, gsC, gsN, augS, augI, bkS, ctS, whS, slE, oxn, oxs, lpS, List.map_cons, List.map_nil, List.length_cons, List.length_nil, List.replicate, List.cons_append, List.nil_append, Nat.reduceAdd, Nat.reduceSub, List.getElem?_cons_succ, List.getElem?_cons_zero, List.set_cons_zero, List.set_cons_succ, R.toS_ok, R.bind_ok, R.toS_ite, R.bind_ite, SR.go_nx, SR.go_rt, SR.go_bk, SR.go_ct, SR.go_ite, SR.lp_nx, SR.lp_rt, SR.lp_bk, SR.lp_ct, SR.lp_ite, fin_nx, fin_rt, fin_ite, W.cb_bl, if_true, if_false, Bool.false_eq_true, eq_int, ne_int, eq_bl, ne_bl, mx2, mn2, int0, notW, truW, fdiv_ok, mod_ok, mul_okl, add_int, neg_int, int_bl, int_int, listLF_fl, listF_fl, listF_tup, listLF_tup, Int.reduceLT, Int.reduceLE, Int.reduceNeg, decide_true, decide_false, nxS, nxA, nxE, R.nox_ok, R.nox_ite, SR.nox_nx, SR.nox_rt, SR.nox_ite, R.bind_ex, R.toS_ex, SR.go_ex, fin_ex, z, Bool.not_true]
    · have z' := eq0_f z
      by_cases k1 : c + 1 < w
      · have vp := vp k1
        have e : decide (F r (c + 1) = 0 ∨ F r (c + 1) = F r c) = true := decide_eq_true (sh.right r c r0 (by omega) c0 (by omega) z)
        simp only [bodyD, pad, sqS, ifS, orB, andB, notB, tb, bn, un, vr, kk, rtS, rnS, exS, orE, andE, chn, ifE, trB, passS, noS, setS, asgS, parS, axc, axn, flE, lsE, tupE, clE, mthE, mkE, lmE, forS, sqI, rg1, rg2, gSb, gFd, setFS, augFS, gNm, gTp, gsC, gsN, augS, augI, bkS, ctS, whS, slE, oxn, oxs, lpS, List.map_cons, List.map_nil, List.length_cons, List.length_nil, List.replicate, List.cons_append, List.nil_append, Nat.reduceAdd, Nat.reduceSub, List.getElem?_cons_succ, List.getElem?_cons_zero, List.set_cons_zero, List.set_cons_succ, R.toS_ok, R.bind_ok, R.toS_ite, R.bind_ite, SR.go_nx, SR.go_rt, SR.go_bk, SR.go_ct, SR.go_ite, SR.lp_nx, SR.lp_rt, SR.lp_bk, SR.lp_ct, SR.lp_ite, fin_nx, fin_rt, fin_ite, W.cb_bl, if_true, if_false, Bool.false_eq_true, eq_int, ne_int, eq_bl, ne_bl, mx2, mn2, int0, notW, truW, fdiv_ok, mod_ok, mul_okl, add_int, neg_int, int_bl, int_int, listLF_fl, listF_fl, listF_tup, listLF_tup, Int.reduceLT, Int.reduceLE, Int.reduceNeg, decide_true, decide_false, nxS, nxA, nxE, R.nox_ok, R.nox_ite, SR.nox_nx, SR.nox_rt, SR.nox_ite, R.bind_ex, R.toS_ex, SR.go_ex, fin_ex, z', Bool.not_false, k1, decide_true, g0, vp, n2, e, Bool.not_true]
      · simp only [bodyD, pad, sqS, ifS, orB, andB, notB, tb, bn, un, vr, kk, rtS, rnS, exS, orE, andE, chn, ifE, trB, passS, noS, setS, asgS, parS, axc, axn, flE, lsE, tupE, clE, mthE, mkE, lmE, forS, sqI, rg1, rg2, gSb, gFd, setFS, augFS, gNm, gTp, gsC, gsN, augS, augI, bkS, ctS, whS, slE, oxn, oxs, lpS, List.map_cons, List.map_nil, List.length_cons, List.length_nil, List.replicate, List.cons_append, List.nil_append, Nat.reduceAdd, Nat.reduceSub, List.getElem?_cons_succ, List.getElem?_cons_zero, List.set_cons_zero, List.set_cons_succ, R.toS_ok, R.bind_ok, R.toS_ite, R.bind_ite, SR.go_nx, SR.go_rt, SR.go_bk, SR.go_ct, SR.go_ite, SR.lp_nx, SR.lp_rt, SR.lp_bk, SR.lp_ct, SR.lp_ite, fin_nx, fin_rt, fin_ite, W.cb_bl, if_true, if_false, Bool.false_eq_true, eq_int, ne_int, eq_bl, ne_bl, mx2, mn2, int0, notW, truW, fdiv_ok, mod_ok, mul_okl, add_int, neg_int, int_bl, int_int, listLF_fl, listF_fl, listF_tup, listLF_tup, Int.reduceLT, Int.reduceLE, Int.reduceNeg, decide_true, decide_false, nxS, nxA, nxE, R.nox_ok, R.nox_ite, SR.nox_nx, SR.nox_rt, SR.nox_ite, R.bind_ex, R.toS_ex, SR.go_ex, fin_ex, z', Bool.not_false, k1, decide_false])]
  rw [sq_nx (e := [some G, some (.int w), some (.int h), some (.int r), some (.int c), some (.int (F r c)), o6, o7, o8]) (s := s) (by
    by_cases z : F r c = 0
    · have z := eq0_t z
      simp only [bodyD, pad, sqS, ifS, orB, andB, notB, tb, bn, un, vr, kk, rtS, rnS, exS, orE, andE, chn, ifE, trB, passS, noS, setS, asgS, parS, axc, axn, flE, lsE, tupE, clE, mthE, mkE, lmE, forS, sqI, rg1, rg2, gSb, gFd, setFS, augFS, gNm, gTp, gsC, gsN, augS, augI, bkS, ctS, whS, slE, oxn, oxs, lpS, List.map_cons, List.map_nil, List.length_cons, List.length_nil, List.replicate, List.cons_append, List.nil_append, Nat.reduceAdd, Nat.reduceSub, List.getElem?_cons_succ, List.getElem?_cons_zero, List.set_cons_zero, List.set_cons_succ, R.toS_ok, R.bind_ok, R.toS_ite, R.bind_ite, SR.go_nx, SR.go_rt, SR.go_bk, SR.go_ct, SR.go_ite, SR.lp_nx, SR.lp_rt, SR.lp_bk, SR.lp_ct, SR.lp_ite, fin_nx, fin_rt, fin_ite, W.cb_bl, if_true, if_false, Bool.false_eq_true, eq_int, ne_int, eq_bl, ne_bl, mx2, mn2, int0, notW, truW, fdiv_ok, mod_ok, mul_okl, add_int, neg_int, int_bl, int_int, listLF_fl, listF_fl, listF_tup, listLF_tup, Int.reduceLT, Int.reduceLE, Int.reduceNeg, decide_true, decide_false, nxS, nxA, nxE, R.nox_ok, R.nox_ite, SR.nox_nx, SR.nox_rt, SR.nox_ite, R.bind_ex, R.toS_ex, SR.go_ex, fin_ex, z, Bool.not_true]
    · have z' := eq0_f z
      by_cases k1 : r + 1 < h
      · have gp := gp k1
        have e : decide (F (r + 1) c = 0 ∨ F (r + 1) c = F r c) = true := decide_eq_true (sh.down r c r0 (by omega) c0 (by omega) z)
        simp only [bodyD, pad, sqS, ifS, orB, andB, notB, tb, bn, un, vr, kk, rtS, rnS, exS, orE, andE, chn, ifE, trB, passS, noS, setS, asgS, parS, axc, axn, flE, lsE, tupE, clE, mthE, mkE, lmE, forS, sqI, rg1, rg2, gSb, gFd, setFS, augFS, gNm, gTp, gsC, gsN, augS, augI, bkS, ctS, whS, slE, oxn, oxs, lpS, List.map_cons, List.map_nil, List.length_cons, List.length_nil, List.replicate, List.cons_append, List.nil_append, Nat.reduceAdd, Nat.reduceSub, List.getElem?_cons_succ, List.getElem?_cons_zero, List.set_cons_zero, List.set_cons_succ, R.toS_ok, R.bind_ok, R.toS_ite, R.bind_ite, SR.go_nx, SR.go_rt, SR.go_bk, SR.go_ct, SR.go_ite, SR.lp_nx, SR.lp_rt, SR.lp_bk, SR.lp_ct, SR.lp_ite, fin_nx, fin_rt, fin_ite, W.cb_bl, if_true, if_false, Bool.false_eq_true, eq_int, ne_int, eq_bl, ne_bl, mx2, mn2, int0, notW, truW, fdiv_ok, mod_ok, mul_okl, add_int, neg_int, int_bl, int_int, listLF_fl, listF_fl, listF_tup, listLF_tup, Int.reduceLT, Int.reduceLE, Int.reduceNeg, decide_true, decide_false, nxS, nxA, nxE, R.nox_ok, R.nox_ite, SR.nox_nx, SR.nox_rt, SR.nox_ite, R.bind_ex, R.toS_ex, SR.go_ex, fin_ex, z', Bool.not_false, k1, decide_true, gp, up, n2, e, Bool.not_true]
      · simp only [bodyD, pad, sqS, ifS, orB, andB, notB, tb, bn, un, vr, kk, rtS, rnS, exS, orE, andE, chn, ifE, trB, passS, noS, setS, asgS, parS, axc, axn, flE, lsE, tupE, clE, mthE, mkE, lmE, forS, sqI, rg1, rg2, gSb, gFd, setFS, augFS, gNm, gTp, gsC, gsN, augS, augI, bkS, ctS, whS, slE, oxn, oxs, lpS, List.map_cons, List.map_nil, List.length_cons, List.length_nil, List.replicate, List.cons_append, List.nil_append, Nat.reduceAdd, Nat.reduceSub, List.getElem?_cons_succ, List.getElem?_cons_zero, List.set_cons_zero, List.set_cons_succ, R.toS_ok, R.bind_ok, R.toS_ite, R.bind_ite, SR.go_nx, SR.go_rt, SR.go_bk, SR.go_ct, SR.go_ite, SR.lp_nx, SR.lp_rt, SR.lp_bk, SR.lp_ct, SR.lp_ite, fin_nx, fin_rt, fin_ite, W.cb_bl, if_true, if_false, Bool.false_eq_true, eq_int, ne_int, eq_bl, ne_bl, mx2, mn2, int0, notW, truW, fdiv_ok, mod_ok, mul_okl, add_int, neg_int, int_bl, int_int, listLF_fl, listF_fl, listF_tup, listLF_tup, Int.reduceLT, Int.reduceLE, Int.reduceNeg, decide_true, decide_false, nxS, nxA, nxE, R.nox_ok, R.nox_ite, SR.nox_nx, SR.nox_rt, SR.nox_ite, R.bind_ex, R.toS_ex, SR.go_ex, fin_ex, z', Bool.not_false, k1, decide_false])]
  rw [sq_nx eU, sq_nx eV, sq_nx eN, sq_nx eM]
  rw [sq_nx (e := [some G, some (.int w), some (.int h), some (.int r), some (.int c), some (.int (F r c)), some (.bl U), some (.bl V), some (.bl M)]) (s := s) (by
    by_cases z : F r c = 0
    · obtain ⟨o, _, _⟩ := out z
      have z := eq0_t z
      cases U with
      | true => simp only [bodyD, pad, sqS, ifS, orB, andB, notB, tb, bn, un, vr, kk, rtS, rnS, exS, orE, andE, chn, ifE, trB, passS, noS, setS, asgS, parS, axc, axn, flE, lsE, tupE, clE, mthE, mkE, lmE, forS, sqI, rg1, rg2, gSb, gFd, setFS, augFS, gNm, gTp, gsC, gsN, augS, augI, bkS, ctS, whS, slE, oxn, oxs, lpS, List.map_cons, List.map_nil, List.length_cons, List.length_nil, List.replicate, List.cons_append, List.nil_append, Nat.reduceAdd, Nat.reduceSub, List.getElem?_cons_succ, List.getElem?_cons_zero, List.set_cons_zero, List.set_cons_succ, R.toS_ok, R.bind_ok, R.toS_ite, R.bind_ite, SR.go_nx, SR.go_rt, SR.go_bk, SR.go_ct, SR.go_ite, SR.lp_nx, SR.lp_rt, SR.lp_bk, SR.lp_ct, SR.lp_ite, fin_nx, fin_rt, fin_ite, W.cb_bl, if_true, if_false, Bool.false_eq_true, eq_int, ne_int, eq_bl, ne_bl, mx2, mn2, int0, notW, truW, fdiv_ok, mod_ok, mul_okl, add_int, neg_int, int_bl, int_int, listLF_fl, listF_fl, listF_tup, listLF_tup, Int.reduceLT, Int.reduceLE, Int.reduceNeg, decide_true, decide_false, nxS, nxA, nxE, R.nox_ok, R.nox_ite, SR.nox_nx, SR.nox_rt, SR.nox_ite, R.bind_ex, R.toS_ex, SR.go_ex, fin_ex, z, Bool.not_true]
      | false =>
        cases V with
        | true => simp only [bodyD, pad, sqS, ifS, orB, andB, notB, tb, bn, un, vr, kk, rtS, rnS, exS, orE, andE, chn, ifE, trB, passS, noS, setS, asgS, parS, axc, axn, flE, lsE, tupE, clE, mthE, mkE, lmE, forS, sqI, rg1, rg2, gSb, gFd, setFS, augFS, gNm, gTp, gsC, gsN, augS, augI, bkS, ctS, whS, slE, oxn, oxs, lpS, List.map_cons, List.map_nil, List.length_cons, List.length_nil, List.replicate, List.cons_append, List.nil_append, Nat.reduceAdd, Nat.reduceSub, List.getElem?_cons_succ, List.getElem?_cons_zero, List.set_cons_zero, List.set_cons_succ, R.toS_ok, R.bind_ok, R.toS_ite, R.bind_ite, SR.go_nx, SR.go_rt, SR.go_bk, SR.go_ct, SR.go_ite, SR.lp_nx, SR.lp_rt, SR.lp_bk, SR.lp_ct, SR.lp_ite, fin_nx, fin_rt, fin_ite, W.cb_bl, if_true, if_false, Bool.false_eq_true, eq_int, ne_int, eq_bl, ne_bl, mx2, mn2, int0, notW, truW, fdiv_ok, mod_ok, mul_okl, add_int, neg_int, int_bl, int_int, listLF_fl, listF_fl, listF_tup, listLF_tup, Int.reduceLT, Int.reduceLE, Int.reduceNeg, decide_true, decide_false, nxS, nxA, nxE, R.nox_ok, R.nox_ite, SR.nox_nx, SR.nox_rt, SR.nox_ite, R.bind_ex, R.toS_ex, SR.go_ex, fin_ex, z, Bool.not_true, Bool.not_false]
        | false =>
          cases M with
          | true => simp only [bodyD, pad, sqS, ifS, orB, andB, notB, tb, bn, un, vr, kk, rtS, rnS, exS, orE, andE, chn, ifE, trB, passS, noS, setS, asgS, parS, axc, axn, flE, lsE, tupE, clE, mthE, mkE, lmE, forS, sqI, rg1, rg2, gSb, gFd, setFS, augFS, gNm, gTp, gsC, gsN, augS, augI, bkS, ctS, whS, slE, oxn, oxs, lpS, List.map_cons, List.map_nil, List.length_cons, List.length_nil, List.replicate, List.cons_append, List.nil_append, Nat.reduceAdd, Nat.reduceSub, List.getElem?_cons_succ, List.getElem?_cons_zero, List.set_cons_zero, List.set_cons_succ, R.toS_ok, R.bind_ok, R.toS_ite, R.bind_ite, SR.go_nx, SR.go_rt, SR.go_bk, SR.go_ct, SR.go_ite, SR.lp_nx, SR.lp_rt, SR.lp_bk, SR.lp_ct, SR.lp_ite, fin_nx, fin_rt, fin_ite, W.cb_bl, if_true, if_false, Bool.false_eq_true, eq_int, ne_int, eq_bl, ne_bl, mx2, mn2, int0, notW, truW, fdiv_ok, mod_ok, mul_okl, add_int, neg_int, int_bl, int_int, listLF_fl, listF_fl, listF_tup, listLF_tup, Int.reduceLT, Int.reduceLE, Int.reduceNeg, decide_true, decide_false, nxS, nxA, nxE, R.nox_ok, R.nox_ite, SR.nox_nx, SR.nox_rt, SR.nox_ite, R.bind_ex, R.toS_ex, SR.go_ex, fin_ex, z, Bool.not_true, Bool.not_false]
          | false => exact absurd o (by simp)
    · have z' := eq0_f z
      simp only [bodyD, pad, sqS, ifS, orB, andB, notB, tb, bn, un, vr, kk, rtS, rnS, exS, orE, andE, chn, ifE, trB, passS, noS, setS, asgS, parS, axc, axn, flE, lsE, tupE, clE, mthE, mkE, lmE, forS, sqI, rg1, rg2, gSb, gFd, setFS, augFS, gNm, gTp, gsC, gsN, augS, augI, bkS, ctS, whS, slE, oxn, oxs, lpS, List.map_cons, List.map_nil, List.length_cons, List.length_nil, List.replicate, List.cons_append, List.nil_append, Nat.reduceAdd, Nat.reduceSub, List.getElem?_cons_succ, List.getElem?_cons_zero, List.set_cons_zero, List.set_cons_succ, R.toS_ok, R.bind_ok, R.toS_ite, R.bind_ite, SR.go_nx, SR.go_rt, SR.go_bk, SR.go_ct, SR.go_ite, SR.lp_nx, SR.lp_rt, SR.lp_bk, SR.lp_ct, SR.lp_ite, fin_nx, fin_rt, fin_ite, W.cb_bl, if_true, if_false, Bool.false_eq_true, eq_int, ne_int, eq_bl, ne_bl, mx2, mn2, int0, notW, truW, fdiv_ok, mod_ok, mul_okl, add_int, neg_int, int_bl, int_int, listLF_fl, listF_fl, listF_tup, listLF_tup, Int.reduceLT, Int.reduceLE, Int.reduceNeg, decide_true, decide_false, nxS, nxA, nxE, R.nox_ok, R.nox_ite, SR.nox_nx, SR.nox_rt, SR.nox_ite, R.bind_ex, R.toS_ex, SR.go_ex, fin_ex, z'])]
  rw [sq_nx (e := [some G, some (.int w), some (.int h), some (.int r), some (.int c), some (.int (F r c)), some (.bl U), some (.bl V), some (.bl M)]) (s := s) (by
    by_cases z : F r c = 0
    · obtain ⟨_, t, d⟩ := out z
      have z := eq0_t z
      by_cases y : r = 0 ∨ r = (h : Int) - 1
      · have hu := t y
        have y : decide (r = 0 ∨ r = (h : Int) - 1) = true := decide_eq_true y
        by_cases y2 : c = 0 ∨ c = (w : Int) - 1
        · have hv := d y2
          have y2 : decide (c = 0 ∨ c = (w : Int) - 1) = true := decide_eq_true y2
          simp only [bodyD, pad, sqS, ifS, orB, andB, notB, tb, bn, un, vr, kk, rtS, rnS, exS, orE, andE, chn, ifE, trB, passS, noS, setS, asgS, parS, axc, axn, flE, lsE, tupE, clE, mthE, mkE, lmE, forS, sqI, rg1, rg2, gSb, gFd, setFS, augFS, gNm, gTp, gsC, gsN, augS, augI, bkS, ctS, whS, slE, oxn, oxs, lpS, List.map_cons, List.map_nil, List.length_cons, List.length_nil, List.replicate, List.cons_append, List.nil_append, Nat.reduceAdd, Nat.reduceSub, List.getElem?_cons_succ, List.getElem?_cons_zero, List.set_cons_zero, List.set_cons_succ, R.toS_ok, R.bind_ok, R.toS_ite, R.bind_ite, SR.go_nx, SR.go_rt, SR.go_bk, SR.go_ct, SR.go_ite, SR.lp_nx, SR.lp_rt, SR.lp_bk, SR.lp_ct, SR.lp_ite, fin_nx, fin_rt, fin_ite, W.cb_bl, if_true, if_false, Bool.false_eq_true, eq_int, ne_int, eq_bl, ne_bl, mx2, mn2, int0, notW, truW, fdiv_ok, mod_ok, mul_okl, add_int, neg_int, int_bl, int_int, listLF_fl, listF_fl, listF_tup, listLF_tup, Int.reduceLT, Int.reduceLE, Int.reduceNeg, decide_true, decide_false, nxS, nxA, nxE, R.nox_ok, R.nox_ite, SR.nox_nx, SR.nox_rt, SR.nox_ite, R.bind_ex, R.toS_ex, SR.go_ex, fin_ex, z, i2, y, y2, hu, hv, Bool.not_true]
        · have y2 : decide (c = 0 ∨ c = (w : Int) - 1) = false := decide_eq_false y2
          simp only [bodyD, pad, sqS, ifS, orB, andB, notB, tb, bn, un, vr, kk, rtS, rnS, exS, orE, andE, chn, ifE, trB, passS, noS, setS, asgS, parS, axc, axn, flE, lsE, tupE, clE, mthE, mkE, lmE, forS, sqI, rg1, rg2, gSb, gFd, setFS, augFS, gNm, gTp, gsC, gsN, augS, augI, bkS, ctS, whS, slE, oxn, oxs, lpS, List.map_cons, List.map_nil, List.length_cons, List.length_nil, List.replicate, List.cons_append, List.nil_append, Nat.reduceAdd, Nat.reduceSub, List.getElem?_cons_succ, List.getElem?_cons_zero, List.set_cons_zero, List.set_cons_succ, R.toS_ok, R.bind_ok, R.toS_ite, R.bind_ite, SR.go_nx, SR.go_rt, SR.go_bk, SR.go_ct, SR.go_ite, SR.lp_nx, SR.lp_rt, SR.lp_bk, SR.lp_ct, SR.lp_ite, fin_nx, fin_rt, fin_ite, W.cb_bl, if_true, if_false, Bool.false_eq_true, eq_int, ne_int, eq_bl, ne_bl, mx2, mn2, int0, notW, truW, fdiv_ok, mod_ok, mul_okl, add_int, neg_int, int_bl, int_int, listLF_fl, listF_fl, listF_tup, listLF_tup, Int.reduceLT, Int.reduceLE, Int.reduceNeg, decide_true, decide_false, nxS, nxA, nxE, R.nox_ok, R.nox_ite, SR.nox_nx, SR.nox_rt, SR.nox_ite, R.bind_ex, R.toS_ex, SR.go_ex, fin_ex, z, i2, y, y2, hu, Bool.not_true]
      · have y : decide (r = 0 ∨ r = (h : Int) - 1) = false := decide_eq_false y
        by_cases y2 : c = 0 ∨ c = (w : Int) - 1
        · have hv := d y2
          have y2 : decide (c = 0 ∨ c = (w : Int) - 1) = true := decide_eq_true y2
          simp only [bodyD, pad, sqS, ifS, orB, andB, notB, tb, bn, un, vr, kk, rtS, rnS, exS, orE, andE, chn, ifE, trB, passS, noS, setS, asgS, parS, axc, axn, flE, lsE, tupE, clE, mthE, mkE, lmE, forS, sqI, rg1, rg2, gSb, gFd, setFS, augFS, gNm, gTp, gsC, gsN, augS, augI, bkS, ctS, whS, slE, oxn, oxs, lpS, List.map_cons, List.map_nil, List.length_cons, List.length_nil, List.replicate, List.cons_append, List.nil_append, Nat.reduceAdd, Nat.reduceSub, List.getElem?_cons_succ, List.getElem?_cons_zero, List.set_cons_zero, List.set_cons_succ, R.toS_ok, R.bind_ok, R.toS_ite, R.bind_ite, SR.go_nx, SR.go_rt, SR.go_bk, SR.go_ct, SR.go_ite, SR.lp_nx, SR.lp_rt, SR.lp_bk, SR.lp_ct, SR.lp_ite, fin_nx, fin_rt, fin_ite, W.cb_bl, if_true, if_false, Bool.false_eq_true, eq_int, ne_int, eq_bl, ne_bl, mx2, mn2, int0, notW, truW, fdiv_ok, mod_ok, mul_okl, add_int, neg_int, int_bl, int_int, listLF_fl, listF_fl, listF_tup, listLF_tup, Int.reduceLT, Int.reduceLE, Int.reduceNeg, decide_true, decide_false, nxS, nxA, nxE, R.nox_ok, R.nox_ite, SR.nox_nx, SR.nox_rt, SR.nox_ite, R.bind_ex, R.toS_ex, SR.go_ex, fin_ex, z, i2, y, y2, hv, Bool.not_true]
        · have y2 : decide (c = 0 ∨ c = (w : Int) - 1) = false := decide_eq_false y2
          simp only [bodyD, pad, sqS, ifS, orB, andB, notB, tb, bn, un, vr, kk, rtS, rnS, exS, orE, andE, chn, ifE, trB, passS, noS, setS, asgS, parS, axc, axn, flE, lsE, tupE, clE, mthE, mkE, lmE, forS, sqI, rg1, rg2, gSb, gFd, setFS, augFS, gNm, gTp, gsC, gsN, augS, augI, bkS, ctS, whS, slE, oxn, oxs, lpS, List.map_cons, List.map_nil, List.length_cons, List.length_nil, List.replicate, List.cons_append, List.nil_append, Nat.reduceAdd, Nat.reduceSub, List.getElem?_cons_succ, List.getElem?_cons_zero, List.set_cons_zero, List.set_cons_succ, R.toS_ok, R.bind_ok, R.toS_ite, R.bind_ite, SR.go_nx, SR.go_rt, SR.go_bk, SR.go_ct, SR.go_ite, SR.lp_nx, SR.lp_rt, SR.lp_bk, SR.lp_ct, SR.lp_ite, fin_nx, fin_rt, fin_ite, W.cb_bl, if_true, if_false, Bool.false_eq_true, eq_int, ne_int, eq_bl, ne_bl, mx2, mn2, int0, notW, truW, fdiv_ok, mod_ok, mul_okl, add_int, neg_int, int_bl, int_int, listLF_fl, listF_fl, listF_tup, listLF_tup, Int.reduceLT, Int.reduceLE, Int.reduceNeg, decide_true, decide_false, nxS, nxA, nxE, R.nox_ok, R.nox_ite, SR.nox_nx, SR.nox_rt, SR.nox_ite, R.bind_ex, R.toS_ex, SR.go_ex, fin_ex, z, i2, y, y2]
    · have z' := eq0_f z
      simp only [bodyD, pad, sqS, ifS, orB, andB, notB, tb, bn, un, vr, kk, rtS, rnS, exS, orE, andE, chn, ifE, trB, passS, noS, setS, asgS, parS, axc, axn, flE, lsE, tupE, clE, mthE, mkE, lmE, forS, sqI, rg1, rg2, gSb, gFd, setFS, augFS, gNm, gTp, gsC, gsN, augS, augI, bkS, ctS, whS, slE, oxn, oxs, lpS, List.map_cons, List.map_nil, List.length_cons, List.length_nil, List.replicate, List.cons_append, List.nil_append, Nat.reduceAdd, Nat.reduceSub, List.getElem?_cons_succ, List.getElem?_cons_zero, List.set_cons_zero, List.set_cons_succ, R.toS_ok, R.bind_ok, R.toS_ite, R.bind_ite, SR.go_nx, SR.go_rt, SR.go_bk, SR.go_ct, SR.go_ite, SR.lp_nx, SR.lp_rt, SR.lp_bk, SR.lp_ct, SR.lp_ite, fin_nx, fin_rt, fin_ite, W.cb_bl, if_true, if_false, Bool.false_eq_true, eq_int, ne_int, eq_bl, ne_bl, mx2, mn2, int0, notW, truW, fdiv_ok, mod_ok, mul_okl, add_int, neg_int, int_bl, int_int, listLF_fl, listF_fl, listF_tup, listLF_tup, Int.reduceLT, Int.reduceLE, Int.reduceNeg, decide_true, decide_false, nxS, nxA, nxE, R.nox_ok, R.nox_ite, SR.nox_nx, SR.nox_rt, SR.nox_ite, R.bind_ex, R.toS_ex, SR.go_ex, fin_ex, z'])]
  by_cases z : F r c = 0
  · have z' := eq0_t z
    by_cases k1 : r + 1 < h
    · by_cases k2 : c + 1 < w
      · have gp := gp k1
        have vp := vp k2
        have upp := upp k2
        have nz := sh.sq r c r0 (by omega) c0 (by omega)
        by_cases y1 : F (r + 1) c = F r (c + 1)
        · have y1' : (F (r + 1) c == F r (c + 1)) = true := by simpa using y1
          by_cases y2 : F r (c + 1) = F (r + 1) (c + 1)
          · have y2' : (F r (c + 1) == F (r + 1) (c + 1)) = true := by simpa using y2
            have y3 : (F (r + 1) (c + 1) == 0) = false := eq0_f fun q => nz ⟨z, by omega, by omega, q⟩
            simp only [bodyD, pad, sqS, ifS, orB, andB, notB, tb, bn, un, vr, kk, rtS, rnS, exS, orE, andE, chn, ifE, trB, passS, noS, setS, asgS, parS, axc, axn, flE, lsE, tupE, clE, mthE, mkE, lmE, forS, sqI, rg1, rg2, gSb, gFd, setFS, augFS, gNm, gTp, gsC, gsN, augS, augI, bkS, ctS, whS, slE, oxn, oxs, lpS, List.map_cons, List.map_nil, List.length_cons, List.length_nil, List.replicate, List.cons_append, List.nil_append, Nat.reduceAdd, Nat.reduceSub, List.getElem?_cons_succ, List.getElem?_cons_zero, List.set_cons_zero, List.set_cons_succ, R.toS_ok, R.bind_ok, R.toS_ite, R.bind_ite, SR.go_nx, SR.go_rt, SR.go_bk, SR.go_ct, SR.go_ite, SR.lp_nx, SR.lp_rt, SR.lp_bk, SR.lp_ct, SR.lp_ite, fin_nx, fin_rt, fin_ite, W.cb_bl, if_true, if_false, Bool.false_eq_true, eq_int, ne_int, eq_bl, ne_bl, mx2, mn2, int0, notW, truW, fdiv_ok, mod_ok, mul_okl, add_int, neg_int, int_bl, int_int, listLF_fl, listF_fl, listF_tup, listLF_tup, Int.reduceLT, Int.reduceLE, Int.reduceNeg, decide_true, decide_false, nxS, nxA, nxE, R.nox_ok, R.nox_ite, SR.nox_nx, SR.nox_rt, SR.nox_ite, R.bind_ex, R.toS_ex, SR.go_ex, fin_ex, chn3, z', k1, k2, decide_true, gp, up, g0, vp, upp, y1', y2', y3]
          · have y2' : (F r (c + 1) == F (r + 1) (c + 1)) = false := by simpa using y2
            simp only [bodyD, pad, sqS, ifS, orB, andB, notB, tb, bn, un, vr, kk, rtS, rnS, exS, orE, andE, chn, ifE, trB, passS, noS, setS, asgS, parS, axc, axn, flE, lsE, tupE, clE, mthE, mkE, lmE, forS, sqI, rg1, rg2, gSb, gFd, setFS, augFS, gNm, gTp, gsC, gsN, augS, augI, bkS, ctS, whS, slE, oxn, oxs, lpS, List.map_cons, List.map_nil, List.length_cons, List.length_nil, List.replicate, List.cons_append, List.nil_append, Nat.reduceAdd, Nat.reduceSub, List.getElem?_cons_succ, List.getElem?_cons_zero, List.set_cons_zero, List.set_cons_succ, R.toS_ok, R.bind_ok, R.toS_ite, R.bind_ite, SR.go_nx, SR.go_rt, SR.go_bk, SR.go_ct, SR.go_ite, SR.lp_nx, SR.lp_rt, SR.lp_bk, SR.lp_ct, SR.lp_ite, fin_nx, fin_rt, fin_ite, W.cb_bl, if_true, if_false, Bool.false_eq_true, eq_int, ne_int, eq_bl, ne_bl, mx2, mn2, int0, notW, truW, fdiv_ok, mod_ok, mul_okl, add_int, neg_int, int_bl, int_int, listLF_fl, listF_fl, listF_tup, listLF_tup, Int.reduceLT, Int.reduceLE, Int.reduceNeg, decide_true, decide_false, nxS, nxA, nxE, R.nox_ok, R.nox_ite, SR.nox_nx, SR.nox_rt, SR.nox_ite, R.bind_ex, R.toS_ex, SR.go_ex, fin_ex, chn3, z', k1, k2, decide_true, gp, up, g0, vp, upp, y1', y2']
        · have y1' : (F (r + 1) c == F r (c + 1)) = false := by simpa using y1
          simp only [bodyD, pad, sqS, ifS, orB, andB, notB, tb, bn, un, vr, kk, rtS, rnS, exS, orE, andE, chn, ifE, trB, passS, noS, setS, asgS, parS, axc, axn, flE, lsE, tupE, clE, mthE, mkE, lmE, forS, sqI, rg1, rg2, gSb, gFd, setFS, augFS, gNm, gTp, gsC, gsN, augS, augI, bkS, ctS, whS, slE, oxn, oxs, lpS, List.map_cons, List.map_nil, List.length_cons, List.length_nil, List.replicate, List.cons_append, List.nil_append, Nat.reduceAdd, Nat.reduceSub, List.getElem?_cons_succ, List.getElem?_cons_zero, List.set_cons_zero, List.set_cons_succ, R.toS_ok, R.bind_ok, R.toS_ite, R.bind_ite, SR.go_nx, SR.go_rt, SR.go_bk, SR.go_ct, SR.go_ite, SR.lp_nx, SR.lp_rt, SR.lp_bk, SR.lp_ct, SR.lp_ite, fin_nx, fin_rt, fin_ite, W.cb_bl, if_true, if_false, Bool.false_eq_true, eq_int, ne_int, eq_bl, ne_bl, mx2, mn2, int0, notW, truW, fdiv_ok, mod_ok, mul_okl, add_int, neg_int, int_bl, int_int, listLF_fl, listF_fl, listF_tup, listLF_tup, Int.reduceLT, Int.reduceLE, Int.reduceNeg, decide_true, decide_false, nxS, nxA, nxE, R.nox_ok, R.nox_ite, SR.nox_nx, SR.nox_rt, SR.nox_ite, R.bind_ex, R.toS_ex, SR.go_ex, fin_ex, chn3, z', k1, k2, decide_true, gp, up, g0, vp, y1']
      · simp only [bodyD, pad, sqS, ifS, orB, andB, notB, tb, bn, un, vr, kk, rtS, rnS, exS, orE, andE, chn, ifE, trB, passS, noS, setS, asgS, parS, axc, axn, flE, lsE, tupE, clE, mthE, mkE, lmE, forS, sqI, rg1, rg2, gSb, gFd, setFS, augFS, gNm, gTp, gsC, gsN, augS, augI, bkS, ctS, whS, slE, oxn, oxs, lpS, List.map_cons, List.map_nil, List.length_cons, List.length_nil, List.replicate, List.cons_append, List.nil_append, Nat.reduceAdd, Nat.reduceSub, List.getElem?_cons_succ, List.getElem?_cons_zero, List.set_cons_zero, List.set_cons_succ, R.toS_ok, R.bind_ok, R.toS_ite, R.bind_ite, SR.go_nx, SR.go_rt, SR.go_bk, SR.go_ct, SR.go_ite, SR.lp_nx, SR.lp_rt, SR.lp_bk, SR.lp_ct, SR.lp_ite, fin_nx, fin_rt, fin_ite, W.cb_bl, if_true, if_false, Bool.false_eq_true, eq_int, ne_int, eq_bl, ne_bl, mx2, mn2, int0, notW, truW, fdiv_ok, mod_ok, mul_okl, add_int, neg_int, int_bl, int_int, listLF_fl, listF_fl, listF_tup, listLF_tup, Int.reduceLT, Int.reduceLE, Int.reduceNeg, decide_true, decide_false, nxS, nxA, nxE, R.nox_ok, R.nox_ite, SR.nox_nx, SR.nox_rt, SR.nox_ite, R.bind_ex, R.toS_ex, SR.go_ex, fin_ex, z', k1, k2, decide_true, decide_false]
    · simp only [bodyD, pad, sqS, ifS, orB, andB, notB, tb, bn, un, vr, kk, rtS, rnS, exS, orE, andE, chn, ifE, trB, passS, noS, setS, asgS, parS, axc, axn, flE, lsE, tupE, clE, mthE, mkE, lmE, forS, sqI, rg1, rg2, gSb, gFd, setFS, augFS, gNm, gTp, gsC, gsN, augS, augI, bkS, ctS, whS, slE, oxn, oxs, lpS, List.map_cons, List.map_nil, List.length_cons, List.length_nil, List.replicate, List.cons_append, List.nil_append, Nat.reduceAdd, Nat.reduceSub, List.getElem?_cons_succ, List.getElem?_cons_zero, List.set_cons_zero, List.set_cons_succ, R.toS_ok, R.bind_ok, R.toS_ite, R.bind_ite, SR.go_nx, SR.go_rt, SR.go_bk, SR.go_ct, SR.go_ite, SR.lp_nx, SR.lp_rt, SR.lp_bk, SR.lp_ct, SR.lp_ite, fin_nx, fin_rt, fin_ite, W.cb_bl, if_true, if_false, Bool.false_eq_true, eq_int, ne_int, eq_bl, ne_bl, mx2, mn2, int0, notW, truW, fdiv_ok, mod_ok, mul_okl, add_int, neg_int, int_bl, int_int, listLF_fl, listF_fl, listF_tup, listLF_tup, Int.reduceLT, Int.reduceLE, Int.reduceNeg, decide_true, decide_false, nxS, nxA, nxE, R.nox_ok, R.nox_ite, SR.nox_nx, SR.nox_rt, SR.nox_ite, R.bind_ex, R.toS_ex, SR.go_ex, fin_ex, z', k1, decide_false]
  · have z' := eq0_f z
    simp only [bodyD, pad, sqS, ifS, orB, andB, notB, tb, bn, un, vr, kk, rtS, rnS, exS, orE, andE, chn, ifE, trB, passS, noS, setS, asgS, parS, axc, axn, flE, lsE, tupE, clE, mthE, mkE, lmE, forS, sqI, rg1, rg2, gSb, gFd, setFS, augFS, gNm, gTp, gsC, gsN, augS, augI, bkS, ctS, whS, slE, oxn, oxs, lpS, List.map_cons, List.map_nil, List.length_cons, List.length_nil, List.replicate, List.cons_append, List.nil_append, Nat.reduceAdd, Nat.reduceSub, List.getElem?_cons_succ, List.getElem?_cons_zero, List.set_cons_zero, List.set_cons_succ, R.toS_ok, R.bind_ok, R.toS_ite, R.bind_ite, SR.go_nx, SR.go_rt, SR.go_bk, SR.go_ct, SR.go_ite, SR.lp_nx, SR.lp_rt, SR.lp_bk, SR.lp_ct, SR.lp_ite, fin_nx, fin_rt, fin_ite, W.cb_bl, if_true, if_false, Bool.false_eq_true, eq_int, ne_int, eq_bl, ne_bl, mx2, mn2, int0, notW, truW, fdiv_ok, mod_ok, mul_okl, add_int, neg_int, int_bl, int_int, listLF_fl, listF_fl, listF_tup, listLF_tup, Int.reduceLT, Int.reduceLE, Int.reduceNeg, decide_true, decide_false, nxS, nxA, nxE, R.nox_ok, R.nox_ite, SR.nox_nx, SR.nox_rt, SR.nox_ite, R.bind_ex, R.toS_ex, SR.go_ex, fin_ex, z']
theorem border_cols {F : Int → Int → Int} {w h : Nat} (sh : Sheet F 0 0 w h) {r : Int} (r0 : 0 ≤ r) (r1 : r < h) (s : Sto) : ∀ (n : Nat) (c : Int) (o4 o5 o6 o7 o8 : Option W), 0 ≤ c → c + n ≤ w →
    ∃ p4 p5 p6 p7 p8, forL (gNm 4) b__law_borders_right_0 (rngL c n) [some (gridW F w h), some (.int w), some (.int h), some (.int r), o4, o5, o6, o7, o8] s = .nx [some (gridW F w h), some (.int w), some (.int h), some (.int r), p4, p5, p6, p7, p8] s
  | 0, c, o4, o5, o6, o7, o8, _, _ => ⟨o4, o5, o6, o7, o8, rfl⟩
  | n + 1, c, o4, o5, o6, o7, o8, h1, h2 => by
    obtain ⟨q5, q6, q7, q8, e1⟩ := border_body sh r0 r1 h1 (by omega) o5 o6 o7 o8 s
    obtain ⟨p4, p5, p6, p7, p8, e2⟩ := border_cols sh r0 r1 s n (c + 1) (some (.int c)) q5 q6 q7 q8 (by omega) (by omega)
    refine ⟨p4, p5, p6, p7, p8, ?_⟩
    rw [rngL_succ]
    unfold forL
    simp only [bodyD, pad, sqS, ifS, orB, andB, notB, tb, bn, un, vr, kk, rtS, rnS, exS, orE, andE, chn, ifE, trB, passS, noS, setS, asgS, parS, axc, axn, flE, lsE, tupE, clE, mthE, mkE, lmE, forS, sqI, rg1, rg2, gSb, gFd, setFS, augFS, gNm, gTp, gsC, gsN, augS, augI, bkS, ctS, whS, slE, oxn, oxs, lpS, List.map_cons, List.map_nil, List.length_cons, List.length_nil, List.replicate, List.cons_append, List.nil_append, Nat.reduceAdd, Nat.reduceSub, List.getElem?_cons_succ, List.getElem?_cons_zero, List.set_cons_zero, List.set_cons_succ, R.toS_ok, R.bind_ok, R.toS_ite, R.bind_ite, SR.go_nx, SR.go_rt, SR.go_bk, SR.go_ct, SR.go_ite, SR.lp_nx, SR.lp_rt, SR.lp_bk, SR.lp_ct, SR.lp_ite, fin_nx, fin_rt, fin_ite, W.cb_bl, if_true, if_false, Bool.false_eq_true, eq_int, ne_int, eq_bl, ne_bl, mx2, mn2, int0, notW, truW, fdiv_ok, mod_ok, mul_okl, add_int, neg_int, int_bl, int_int, listLF_fl, listF_fl, listF_tup, listLF_tup, Int.reduceLT, Int.reduceLE, Int.reduceNeg, decide_true, decide_false, nxS, nxA, nxE, R.nox_ok, R.nox_ite, SR.nox_nx, SR.nox_rt, SR.nox_ite, R.bind_ex, R.toS_ex, SR.go_ex, fin_ex]
    rw [e1]
    simp only [bodyD, pad, sqS, ifS, orB, andB, notB, tb, bn, un, vr, kk, rtS, rnS, exS, orE, andE, chn, ifE, trB, passS, noS, setS, asgS, parS, axc, axn, flE, lsE, tupE, clE, mthE, mkE, lmE, forS, sqI, rg1, rg2, gSb, gFd, setFS, augFS, gNm, gTp, gsC, gsN, augS, augI, bkS, ctS, whS, slE, oxn, oxs, lpS, List.map_cons, List.map_nil, List.length_cons, List.length_nil, List.replicate, List.cons_append, List.nil_append, Nat.reduceAdd, Nat.reduceSub, List.getElem?_cons_succ, List.getElem?_cons_zero, List.set_cons_zero, List.set_cons_succ, R.toS_ok, R.bind_ok, R.toS_ite, R.bind_ite, SR.go_nx, SR.go_rt, SR.go_bk, SR.go_ct, SR.go_ite, SR.lp_nx, SR.lp_rt, SR.lp_bk, SR.lp_ct, SR.lp_ite, fin_nx, fin_rt, fin_ite, W.cb_bl, if_true, if_false, Bool.false_eq_true, eq_int, ne_int, eq_bl, ne_bl, mx2, mn2, int0, notW, truW, fdiv_ok, mod_ok, mul_okl, add_int, neg_int, int_bl, int_int, listLF_fl, listF_fl, listF_tup, listLF_tup, Int.reduceLT, Int.reduceLE, Int.reduceNeg, decide_true, decide_false, nxS, nxA, nxE, R.nox_ok, R.nox_ite, SR.nox_nx, SR.nox_rt, SR.nox_ite, R.bind_ex, R.toS_ex, SR.go_ex, fin_ex]
    exact e2
theorem border_rows {F : Int → Int → Int} {w h : Nat} (sh : Sheet F 0 0 w h) (hw : w ≤ 100000) (s : Sto) : ∀ (n : Nat) (r : Int) (o3 o4 o5 o6 o7 o8 : Option W), 0 ≤ r → r + n ≤ h →
    ∃ p3 p4 p5 p6 p7 p8, forL (gNm 3) b__law_borders_right_1 (rngL r n) [some (gridW F w h), some (.int w), some (.int h), o3, o4, o5, o6, o7, o8] s = .nx [some (gridW F w h), some (.int w), some (.int h), p3, p4, p5, p6, p7, p8] s
  | 0, r, o3, o4, o5, o6, o7, o8, _, _ => ⟨o3, o4, o5, o6, o7, o8, rfl⟩
  | n + 1, r, o3, o4, o5, o6, o7, o8, h1, h2 => by
    obtain ⟨q4, q5, q6, q7, q8, e1⟩ := border_cols sh h1 (by omega) s w 0 o4 o5 o6 o7 o8 (by omega) (by omega)
    obtain ⟨p3, p4, p5, p6, p7, p8, e2⟩ := border_rows sh hw s n (r + 1) (some (.int r)) q4 q5 q6 q7 q8 (by omega) (by omega)
    refine ⟨p3, p4, p5, p6, p7, p8, ?_⟩
    have sm : smI (w : Int) = true := smI_small (by omega) (by omega)
    have bd : b__law_borders_right_1 [some (gridW F w h), some (.int w), some (.int h), some (.int r), o4, o5, o6, o7, o8] s = .nx [some (gridW F w h), some (.int w), some (.int h), some (.int r), q4, q5, q6, q7, q8] s := by
      unfold b__law_borders_right_1
      simp only [bodyD, pad, sqS, ifS, orB, andB, notB, tb, bn, un, vr, kk, rtS, rnS, exS, orE, andE, chn, ifE, trB, passS, noS, setS, asgS, parS, axc, axn, flE, lsE, tupE, clE, mthE, mkE, lmE, forS, sqI, rg1, rg2, gSb, gFd, setFS, augFS, gNm, gTp, gsC, gsN, augS, augI, bkS, ctS, whS, slE, oxn, oxs, lpS, List.map_cons, List.map_nil, List.length_cons, List.length_nil, List.replicate, List.cons_append, List.nil_append, Nat.reduceAdd, Nat.reduceSub, List.getElem?_cons_succ, List.getElem?_cons_zero, List.set_cons_zero, List.set_cons_succ, R.toS_ok, R.bind_ok, R.toS_ite, R.bind_ite, SR.go_nx, SR.go_rt, SR.go_bk, SR.go_ct, SR.go_ite, SR.lp_nx, SR.lp_rt, SR.lp_bk, SR.lp_ct, SR.lp_ite, fin_nx, fin_rt, fin_ite, W.cb_bl, if_true, if_false, Bool.false_eq_true, eq_int, ne_int, eq_bl, ne_bl, mx2, mn2, int0, notW, truW, fdiv_ok, mod_ok, mul_okl, add_int, neg_int, int_bl, int_int, listLF_fl, listF_fl, listF_tup, listLF_tup, Int.reduceLT, Int.reduceLE, Int.reduceNeg, decide_true, decide_false, nxS, nxA, nxE, R.nox_ok, R.nox_ite, SR.nox_nx, SR.nox_rt, SR.nox_ite, R.bind_ex, R.toS_ex, SR.go_ex, fin_ex, sm, Int.toNat_natCast]
      exact e1
    rw [rngL_succ]
    unfold forL
    simp only [bodyD, pad, sqS, ifS, orB, andB, notB, tb, bn, un, vr, kk, rtS, rnS, exS, orE, andE, chn, ifE, trB, passS, noS, setS, asgS, parS, axc, axn, flE, lsE, tupE, clE, mthE, mkE, lmE, forS, sqI, rg1, rg2, gSb, gFd, setFS, augFS, gNm, gTp, gsC, gsN, augS, augI, bkS, ctS, whS, slE, oxn, oxs, lpS, List.map_cons, List.map_nil, List.length_cons, List.length_nil, List.replicate, List.cons_append, List.nil_append, Nat.reduceAdd, Nat.reduceSub, List.getElem?_cons_succ, List.getElem?_cons_zero, List.set_cons_zero, List.set_cons_succ, R.toS_ok, R.bind_ok, R.toS_ite, R.bind_ite, SR.go_nx, SR.go_rt, SR.go_bk, SR.go_ct, SR.go_ite, SR.lp_nx, SR.lp_rt, SR.lp_bk, SR.lp_ct, SR.lp_ite, fin_nx, fin_rt, fin_ite, W.cb_bl, if_true, if_false, Bool.false_eq_true, eq_int, ne_int, eq_bl, ne_bl, mx2, mn2, int0, notW, truW, fdiv_ok, mod_ok, mul_okl, add_int, neg_int, int_bl, int_int, listLF_fl, listF_fl, listF_tup, listLF_tup, Int.reduceLT, Int.reduceLE, Int.reduceNeg, decide_true, decide_false, nxS, nxA, nxE, R.nox_ok, R.nox_ite, SR.nox_nx, SR.nox_rt, SR.nox_ite, R.bind_ex, R.toS_ex, SR.go_ex, fin_ex]
    rw [bd]
    simp only [bodyD, pad, sqS, ifS, orB, andB, notB, tb, bn, un, vr, kk, rtS, rnS, exS, orE, andE, chn, ifE, trB, passS, noS, setS, asgS, parS, axc, axn, flE, lsE, tupE, clE, mthE, mkE, lmE, forS, sqI, rg1, rg2, gSb, gFd, setFS, augFS, gNm, gTp, gsC, gsN, augS, augI, bkS, ctS, whS, slE, oxn, oxs, lpS, List.map_cons, List.map_nil, List.length_cons, List.length_nil, List.replicate, List.cons_append, List.nil_append, Nat.reduceAdd, Nat.reduceSub, List.getElem?_cons_succ, List.getElem?_cons_zero, List.set_cons_zero, List.set_cons_succ, R.toS_ok, R.bind_ok, R.toS_ite, R.bind_ite, SR.go_nx, SR.go_rt, SR.go_bk, SR.go_ct, SR.go_ite, SR.lp_nx, SR.lp_rt, SR.lp_bk, SR.lp_ct, SR.lp_ite, fin_nx, fin_rt, fin_ite, W.cb_bl, if_true, if_false, Bool.false_eq_true, eq_int, ne_int, eq_bl, ne_bl, mx2, mn2, int0, notW, truW, fdiv_ok, mod_ok, mul_okl, add_int, neg_int, int_bl, int_int, listLF_fl, listF_fl, listF_tup, listLF_tup, Int.reduceLT, Int.reduceLE, Int.reduceNeg, decide_true, decide_false, nxS, nxA, nxE, R.nox_ok, R.nox_ite, SR.nox_nx, SR.nox_rt, SR.nox_ite, R.bind_ex, R.toS_ex, SR.go_ex, fin_ex]
    exact e2
theorem borders_ok {F : Int → Int → Int} {w h : Nat} (sh : Sheet F 0 0 w h) (hw : w ≤ 100000) (hh : h ≤ 100000) (s : Sto) : r__law_borders_right [gridW F w h, .int w, .int h] s = .ok (.bl true) s := by
  obtain ⟨p3, p4, p5, p6, p7, p8, e⟩ := border_rows sh hw s h 0 none none none none none none (by omega) (by omega)
  have sm : smI (h : Int) = true := smI_small (by omega) (by omega)
  unfold r__law_borders_right
  refine body_of ?_
  rw [sq_nx (e := [some (gridW F w h), some (.int w), some (.int h), p3, p4, p5, p6, p7, p8]) (s := s) (by
    simp only [bodyD, pad, sqS, ifS, orB, andB, notB, tb, bn, un, vr, kk, rtS, rnS, exS, orE, andE, chn, ifE, trB, passS, noS, setS, asgS, parS, axc, axn, flE, lsE, tupE, clE, mthE, mkE, lmE, forS, sqI, rg1, rg2, gSb, gFd, setFS, augFS, gNm, gTp, gsC, gsN, augS, augI, bkS, ctS, whS, slE, oxn, oxs, lpS, List.map_cons, List.map_nil, List.length_cons, List.length_nil, List.replicate, List.cons_append, List.nil_append, Nat.reduceAdd, Nat.reduceSub, List.getElem?_cons_succ, List.getElem?_cons_zero, List.set_cons_zero, List.set_cons_succ, R.toS_ok, R.bind_ok, R.toS_ite, R.bind_ite, SR.go_nx, SR.go_rt, SR.go_bk, SR.go_ct, SR.go_ite, SR.lp_nx, SR.lp_rt, SR.lp_bk, SR.lp_ct, SR.lp_ite, fin_nx, fin_rt, fin_ite, W.cb_bl, if_true, if_false, Bool.false_eq_true, eq_int, ne_int, eq_bl, ne_bl, mx2, mn2, int0, notW, truW, fdiv_ok, mod_ok, mul_okl, add_int, neg_int, int_bl, int_int, listLF_fl, listF_fl, listF_tup, listLF_tup, Int.reduceLT, Int.reduceLE, Int.reduceNeg, decide_true, decide_false, nxS, nxA, nxE, R.nox_ok, R.nox_ite, SR.nox_nx, SR.nox_rt, SR.nox_ite, R.bind_ex, R.toS_ex, SR.go_ex, fin_ex, pad, sm, Int.toNat_natCast]
    exact e)]
  simp only [bodyD, pad, sqS, ifS, orB, andB, notB, tb, bn, un, vr, kk, rtS, rnS, exS, orE, andE, chn, ifE, trB, passS, noS, setS, asgS, parS, axc, axn, flE, lsE, tupE, clE, mthE, mkE, lmE, forS, sqI, rg1, rg2, gSb, gFd, setFS, augFS, gNm, gTp, gsC, gsN, augS, augI, bkS, ctS, whS, slE, oxn, oxs, lpS, List.map_cons, List.map_nil, List.length_cons, List.length_nil, List.replicate, List.cons_append, List.nil_append, Nat.reduceAdd, Nat.reduceSub, List.getElem?_cons_succ, List.getElem?_cons_zero, List.set_cons_zero, List.set_cons_succ, R.toS_ok, R.bind_ok, R.toS_ite, R.bind_ite, SR.go_nx, SR.go_rt, SR.go_bk, SR.go_ct, SR.go_ite, SR.lp_nx, SR.lp_rt, SR.lp_bk, SR.lp_ct, SR.lp_ite, fin_nx, fin_rt, fin_ite, W.cb_bl, if_true, if_false, Bool.false_eq_true, eq_int, ne_int, eq_bl, ne_bl, mx2, mn2, int0, notW, truW, fdiv_ok, mod_ok, mul_okl, add_int, neg_int, int_bl, int_int, listLF_fl, listF_fl, listF_tup, listLF_tup, Int.reduceLT, Int.reduceLE, Int.reduceNeg, decide_true, decide_false, nxS, nxA, nxE, R.nox_ok, R.nox_ite, SR.nox_nx, SR.nox_rt, SR.nox_ite, R.bind_ex, R.toS_ex, SR.go_ex, fin_ex]
/-! ### one step -/
theorem way_two (c : Int) (s : Sto) : ixW (.fl [.str "beside", .str "below"]) (.int (c % 2)) s = .ok (.str (wayS (decide (c % 2 = 1)))) s := by
  have h : c % 2 = 0 ∨ c % 2 = 1 := by omega
  rcases h with h | h
  · rw [h]; rfl
  · rw [h]; rfl
theorem filter_ints (q : Int) (xs : List Int) : (xs.filter fun p => !(p == q)) = xs.filter fun p => p ≠ q := by
  congr 1
  funext p
  by_cases h : p = q <;> simp [h]
theorem step_ok {N : Nat} {L : Lay} {w h cell new : Int} (so : Sound N L) (hN : N ≤ 18) (hw : w ≤ 1000) (hh : h ≤ 1000) (hp : ∀ p ∈ L.panes, 1 ≤ p ∧ p < new) (hn : new ≤ 1000) (s : Sto) :
    ∃ M ks, r__law_step [layW L, .int w, .int h, .int cell, .int new] s = .ok (.tup [layW M, intsW ks]) s ∧ Sound (N + 1) M ∧ (∀ p ∈ M.panes, 1 ≤ p ∧ p < new + 1) ∧ M.panes.Perm ks := by
  have g : Good 20 L := so.good (by omega) (by omega)
  have pn := panes_ok (st := s) g
  have pp := panes_pos so.ok
  have ln : ∀ s, lenF [.fl (L.panes.map W.int)] s = .ok (.int (L.panes.length : Int)) s := fun s => by simp [lenF, seqOf, lstOf]
  have md : ∀ s, modW (.int cell) (.int (L.panes.length : Int)) s = .ok (.int (cell % L.panes.length)) s := fun s => mod_ok (by omega)
  have h0 := Int.emod_nonneg cell (show (L.panes.length : Int) ≠ 0 by omega)
  have h1 := Int.emod_lt_of_pos cell (show (0 : Int) < L.panes.length by omega)
  have ix : ∀ s, ixW (.fl (L.panes.map W.int)) (.int (cell % L.panes.length)) s = .ok (.int (L.panes.getD (cell % L.panes.length).toNat 0)) s := fun s => by
    have := atI_getD W.int L.panes 0 (i := (cell % L.panes.length).toNat) (by omega)
    rw [Int.toNat_of_nonneg h0] at this
    exact ixW_lst (seqOf_fl ..) this
  have hq : L.panes.getD (cell % L.panes.length).toNat 0 ∈ L.panes := by
    rw [List.getD_eq_getElem?_getD, List.getElem?_eq_getElem (by omega)]
    exact List.getElem_mem _
  have wy := fun s => way_two (cell / 11) s
  generalize L.panes.getD (cell % L.panes.length).toNat 0 = q at *
  generalize decide (cell / 11 % 2 = 1) = b at *
  have hnew : new ∉ L.panes := fun z => by have := hp _ z; omega
  have hql := hp q hq
  have hz : q.natAbs.log2 < 1920 := by
    have : q.natAbs.log2 < 10 := (Nat.log2_lt (by omega)).mpr (by omega)
    omega
  have pre : ∀ (r : W) (s' : Sto) (rest : Sx), rest [some (layW L), some (.int w), some (.int h), some (.int cell), some (.int new), some (.fl (L.panes.map W.int)), some (.int q), some (.str (wayS b)), some (.int (cell / 22 % 6)), none] s = .rt r s' →
      bodyD 10 (sqS (setS 5 (clE (d_panes 20) (axc (vr 0) axn))) (sqS (setS 6 (bn ixW (vr 5) (bn modW (vr 3) (clE lenF (axc (vr 5) axn))))) (sqS (setS 7 (bn ixW (flE (axc (kk (.str "beside")) (axc (kk (.str "below")) axn))) (bn modW (bn fdivW (vr 3) (kk (.int 11))) (kk (.int 2))))) (sqS (setS 8 (bn modW (bn fdivW (vr 3) (kk (.int 22))) (kk (.int 6)))) rest)))) [layW L, .int w, .int h, .int cell, .int new] s = .ok r s' := by
    intro r s' rest hr
    refine body_of ?_
    rw [sq_nx (e := [some (layW L), some (.int w), some (.int h), some (.int cell), some (.int new), some (.fl (L.panes.map W.int)), none, none, none, none]) (s := s) (by simp only [bodyD, pad, sqS, ifS, orB, andB, notB, tb, bn, un, vr, kk, rtS, rnS, exS, orE, andE, chn, ifE, trB, passS, noS, setS, asgS, parS, axc, axn, flE, lsE, tupE, clE, mthE, mkE, lmE, forS, sqI, rg1, rg2, gSb, gFd, setFS, augFS, gNm, gTp, gsC, gsN, augS, augI, bkS, ctS, whS, slE, oxn, oxs, lpS, List.map_cons, List.map_nil, List.length_cons, List.length_nil, List.replicate, List.cons_append, List.nil_append, Nat.reduceAdd, Nat.reduceSub, List.getElem?_cons_succ, List.getElem?_cons_zero, List.set_cons_zero, List.set_cons_succ, R.toS_ok, R.bind_ok, R.toS_ite, R.bind_ite, SR.go_nx, SR.go_rt, SR.go_bk, SR.go_ct, SR.go_ite, SR.lp_nx, SR.lp_rt, SR.lp_bk, SR.lp_ct, SR.lp_ite, fin_nx, fin_rt, fin_ite, W.cb_bl, if_true, if_false, Bool.false_eq_true, eq_int, ne_int, eq_bl, ne_bl, mx2, mn2, int0, notW, truW, fdiv_ok, mod_ok, mul_okl, add_int, neg_int, int_bl, int_int, listLF_fl, listF_fl, listF_tup, listLF_tup, Int.reduceLT, Int.reduceLE, Int.reduceNeg, decide_true, decide_false, nxS, nxA, nxE, R.nox_ok, R.nox_ite, SR.nox_nx, SR.nox_rt, SR.nox_ite, R.bind_ex, R.toS_ex, SR.go_ex, fin_ex, pad, pn])]
    rw [sq_nx (e := [some (layW L), some (.int w), some (.int h), some (.int cell), some (.int new), some (.fl (L.panes.map W.int)), some (.int q), none, none, none]) (s := s) (by simp only [bodyD, pad, sqS, ifS, orB, andB, notB, tb, bn, un, vr, kk, rtS, rnS, exS, orE, andE, chn, ifE, trB, passS, noS, setS, asgS, parS, axc, axn, flE, lsE, tupE, clE, mthE, mkE, lmE, forS, sqI, rg1, rg2, gSb, gFd, setFS, augFS, gNm, gTp, gsC, gsN, augS, augI, bkS, ctS, whS, slE, oxn, oxs, lpS, List.map_cons, List.map_nil, List.length_cons, List.length_nil, List.replicate, List.cons_append, List.nil_append, Nat.reduceAdd, Nat.reduceSub, List.getElem?_cons_succ, List.getElem?_cons_zero, List.set_cons_zero, List.set_cons_succ, R.toS_ok, R.bind_ok, R.toS_ite, R.bind_ite, SR.go_nx, SR.go_rt, SR.go_bk, SR.go_ct, SR.go_ite, SR.lp_nx, SR.lp_rt, SR.lp_bk, SR.lp_ct, SR.lp_ite, fin_nx, fin_rt, fin_ite, W.cb_bl, if_true, if_false, Bool.false_eq_true, eq_int, ne_int, eq_bl, ne_bl, mx2, mn2, int0, notW, truW, fdiv_ok, mod_ok, mul_okl, add_int, neg_int, int_bl, int_int, listLF_fl, listF_fl, listF_tup, listLF_tup, Int.reduceLT, Int.reduceLE, Int.reduceNeg, decide_true, decide_false, nxS, nxA, nxE, R.nox_ok, R.nox_ite, SR.nox_nx, SR.nox_rt, SR.nox_ite, R.bind_ex, R.toS_ex, SR.go_ex, fin_ex, ln, md, ix])]
    rw [sq_nx (e := [some (layW L), some (.int w), some (.int h), some (.int cell), some (.int new), some (.fl (L.panes.map W.int)), some (.int q), some (.str (wayS b)), none, none]) (s := s) (by simp only [bodyD, pad, sqS, ifS, orB, andB, notB, tb, bn, un, vr, kk, rtS, rnS, exS, orE, andE, chn, ifE, trB, passS, noS, setS, asgS, parS, axc, axn, flE, lsE, tupE, clE, mthE, mkE, lmE, forS, sqI, rg1, rg2, gSb, gFd, setFS, augFS, gNm, gTp, gsC, gsN, augS, augI, bkS, ctS, whS, slE, oxn, oxs, lpS, List.map_cons, List.map_nil, List.length_cons, List.length_nil, List.replicate, List.cons_append, List.nil_append, Nat.reduceAdd, Nat.reduceSub, List.getElem?_cons_succ, List.getElem?_cons_zero, List.set_cons_zero, List.set_cons_succ, R.toS_ok, R.bind_ok, R.toS_ite, R.bind_ite, SR.go_nx, SR.go_rt, SR.go_bk, SR.go_ct, SR.go_ite, SR.lp_nx, SR.lp_rt, SR.lp_bk, SR.lp_ct, SR.lp_ite, fin_nx, fin_rt, fin_ite, W.cb_bl, if_true, if_false, Bool.false_eq_true, eq_int, ne_int, eq_bl, ne_bl, mx2, mn2, int0, notW, truW, fdiv_ok, mod_ok, mul_okl, add_int, neg_int, int_bl, int_int, listLF_fl, listF_fl, listF_tup, listLF_tup, Int.reduceLT, Int.reduceLE, Int.reduceNeg, decide_true, decide_false, nxS, nxA, nxE, R.nox_ok, R.nox_ite, SR.nox_nx, SR.nox_rt, SR.nox_ite, R.bind_ex, R.toS_ex, SR.go_ex, fin_ex, wy])]
    rw [sq_nx (e := [some (layW L), some (.int w), some (.int h), some (.int cell), some (.int new), some (.fl (L.panes.map W.int)), some (.int q), some (.str (wayS b)), some (.int (cell / 22 % 6)), none]) (s := s) (by simp only [bodyD, pad, sqS, ifS, orB, andB, notB, tb, bn, un, vr, kk, rtS, rnS, exS, orE, andE, chn, ifE, trB, passS, noS, setS, asgS, parS, axc, axn, flE, lsE, tupE, clE, mthE, mkE, lmE, forS, sqI, rg1, rg2, gSb, gFd, setFS, augFS, gNm, gTp, gsC, gsN, augS, augI, bkS, ctS, whS, slE, oxn, oxs, lpS, List.map_cons, List.map_nil, List.length_cons, List.length_nil, List.replicate, List.cons_append, List.nil_append, Nat.reduceAdd, Nat.reduceSub, List.getElem?_cons_succ, List.getElem?_cons_zero, List.set_cons_zero, List.set_cons_succ, R.toS_ok, R.bind_ok, R.toS_ite, R.bind_ite, SR.go_nx, SR.go_rt, SR.go_bk, SR.go_ct, SR.go_ite, SR.lp_nx, SR.lp_rt, SR.lp_bk, SR.lp_ct, SR.lp_ite, fin_nx, fin_rt, fin_ite, W.cb_bl, if_true, if_false, Bool.false_eq_true, eq_int, ne_int, eq_bl, ne_bl, mx2, mn2, int0, notW, truW, fdiv_ok, mod_ok, mul_okl, add_int, neg_int, int_bl, int_int, listLF_fl, listF_fl, listF_tup, listLF_tup, Int.reduceLT, Int.reduceLE, Int.reduceNeg, decide_true, decide_false, nxS, nxA, nxE, R.nox_ok, R.nox_ite, SR.nox_nx, SR.nox_rt, SR.nox_ite, R.bind_ex, R.toS_ex, SR.go_ex, fin_ex])]
    exact hr
  by_cases k1 : cell / 22 % 6 < 4
  · cases e : L.divided w h q b new with
    | some M =>
      obtain ⟨sm, pm⟩ := so.divided (by omega) hw hh hnew e
      have dv := divided_some (st := s) (so.mono (by omega)) hw hh hq hnew hz e
      have ad : ∀ s, addW (.fl (L.panes.map W.int)) (.fl [.int new]) s = .ok (intsW (L.panes ++ [new])) s := fun s => by
        have := so.ln
        unfold addW
        simp only [lstOf, List.length_map, List.length_cons, List.length_nil]
        rw [if_pos (ck_iff.mpr (by omega))]
        unfold intsW
        rw [List.map_append]
        rfl
      refine ⟨M, L.panes ++ [new], ?_, sm, fun p hpm => ?_, ?_⟩
      · refine pre _ _ _ ?_
        simp only [bodyD, pad, sqS, ifS, orB, andB, notB, tb, bn, un, vr, kk, rtS, rnS, exS, orE, andE, chn, ifE, trB, passS, noS, setS, asgS, parS, axc, axn, flE, lsE, tupE, clE, mthE, mkE, lmE, forS, sqI, rg1, rg2, gSb, gFd, setFS, augFS, gNm, gTp, gsC, gsN, augS, augI, bkS, ctS, whS, slE, oxn, oxs, lpS, List.map_cons, List.map_nil, List.length_cons, List.length_nil, List.replicate, List.cons_append, List.nil_append, Nat.reduceAdd, Nat.reduceSub, List.getElem?_cons_succ, List.getElem?_cons_zero, List.set_cons_zero, List.set_cons_succ, R.toS_ok, R.bind_ok, R.toS_ite, R.bind_ite, SR.go_nx, SR.go_rt, SR.go_bk, SR.go_ct, SR.go_ite, SR.lp_nx, SR.lp_rt, SR.lp_bk, SR.lp_ct, SR.lp_ite, fin_nx, fin_rt, fin_ite, W.cb_bl, if_true, if_false, Bool.false_eq_true, eq_int, ne_int, eq_bl, ne_bl, mx2, mn2, int0, notW, truW, fdiv_ok, mod_ok, mul_okl, add_int, neg_int, int_bl, int_int, listLF_fl, listF_fl, listF_tup, listLF_tup, Int.reduceLT, Int.reduceLE, Int.reduceNeg, decide_true, decide_false, nxS, nxA, nxE, R.nox_ok, R.nox_ite, SR.nox_nx, SR.nox_rt, SR.nox_ite, R.bind_ex, R.toS_ex, SR.go_ex, fin_ex, k1, decide_true, tryS, tpWE, dv, ad]
      · rw [pm] at hpm
        rcases insP_mem hpm with z | z
        · have := hp p z; omega
        · omega
      · rw [pm]
        obtain ⟨A, C, eq⟩ := List.append_of_mem hq
        rw [eq, insP_split (by rw [← eq]; exact so.nd), List.append_assoc]
        refine List.Perm.append_left A (List.Perm.cons q ?_)
        exact (List.perm_append_comm (l₁ := [new]) (l₂ := C))
    | none =>
      have dv := divided_none (st := s) (so.mono (by omega)) hw hh hq hnew hz e
      refine ⟨L, L.panes, ?_, so.mono (by omega), fun p hpm => by have := hp p hpm; omega, List.Perm.refl _⟩
      refine pre _ _ _ ?_
      simp only [bodyD, pad, sqS, ifS, orB, andB, notB, tb, bn, un, vr, kk, rtS, rnS, exS, orE, andE, chn, ifE, trB, passS, noS, setS, asgS, parS, axc, axn, flE, lsE, tupE, clE, mthE, mkE, lmE, forS, sqI, rg1, rg2, gSb, gFd, setFS, augFS, gNm, gTp, gsC, gsN, augS, augI, bkS, ctS, whS, slE, oxn, oxs, lpS, List.map_cons, List.map_nil, List.length_cons, List.length_nil, List.replicate, List.cons_append, List.nil_append, Nat.reduceAdd, Nat.reduceSub, List.getElem?_cons_succ, List.getElem?_cons_zero, List.set_cons_zero, List.set_cons_succ, R.toS_ok, R.bind_ok, R.toS_ite, R.bind_ite, SR.go_nx, SR.go_rt, SR.go_bk, SR.go_ct, SR.go_ite, SR.lp_nx, SR.lp_rt, SR.lp_bk, SR.lp_ct, SR.lp_ite, fin_nx, fin_rt, fin_ite, W.cb_bl, if_true, if_false, Bool.false_eq_true, eq_int, ne_int, eq_bl, ne_bl, mx2, mn2, int0, notW, truW, fdiv_ok, mod_ok, mul_okl, add_int, neg_int, int_bl, int_int, listLF_fl, listF_fl, listF_tup, listLF_tup, Int.reduceLT, Int.reduceLE, Int.reduceNeg, decide_true, decide_false, nxS, nxA, nxE, R.nox_ok, R.nox_ite, SR.nox_nx, SR.nox_rt, SR.nox_ite, R.bind_ex, R.toS_ex, SR.go_ex, fin_ex, k1, decide_true, tryS, tpWE, dv, isx_NoRoom]
      rfl
  · by_cases k2 : cell / 22 % 6 = 4 ∨ L.panes.length = 1
    · have mv := moved_ok (q := q) (b := b) (a := cell / 132 % 41 - 20) (st := s) (so.mono (M := 20) (by omega)) hw hh
      obtain ⟨sm, pm⟩ := so.moved (by omega) hw hh (w := w) (k := h) (q := q) (way := b) (a := cell / 132 % 41 - 20)
      refine ⟨L.moved w h q b (cell / 132 % 41 - 20), L.panes, ?_, sm.mono (by omega), fun p hpm => by rw [pm] at hpm; have := hp p hpm; omega, by rw [pm]⟩
      refine pre _ _ _ ?_
      by_cases k3 : cell / 22 % 6 = 4
      · have k3 : (cell / 22 % 6 == 4) = true := by simpa using k3
        simp only [bodyD, pad, sqS, ifS, orB, andB, notB, tb, bn, un, vr, kk, rtS, rnS, exS, orE, andE, chn, ifE, trB, passS, noS, setS, asgS, parS, axc, axn, flE, lsE, tupE, clE, mthE, mkE, lmE, forS, sqI, rg1, rg2, gSb, gFd, setFS, augFS, gNm, gTp, gsC, gsN, augS, augI, bkS, ctS, whS, slE, oxn, oxs, lpS, List.map_cons, List.map_nil, List.length_cons, List.length_nil, List.replicate, List.cons_append, List.nil_append, Nat.reduceAdd, Nat.reduceSub, List.getElem?_cons_succ, List.getElem?_cons_zero, List.set_cons_zero, List.set_cons_succ, R.toS_ok, R.bind_ok, R.toS_ite, R.bind_ite, SR.go_nx, SR.go_rt, SR.go_bk, SR.go_ct, SR.go_ite, SR.lp_nx, SR.lp_rt, SR.lp_bk, SR.lp_ct, SR.lp_ite, fin_nx, fin_rt, fin_ite, W.cb_bl, if_true, if_false, Bool.false_eq_true, eq_int, ne_int, eq_bl, ne_bl, mx2, mn2, int0, notW, truW, fdiv_ok, mod_ok, mul_okl, add_int, neg_int, int_bl, int_int, listLF_fl, listF_fl, listF_tup, listLF_tup, Int.reduceLT, Int.reduceLE, Int.reduceNeg, decide_true, decide_false, nxS, nxA, nxE, R.nox_ok, R.nox_ite, SR.nox_nx, SR.nox_rt, SR.nox_ite, R.bind_ex, R.toS_ex, SR.go_ex, fin_ex, k1, decide_false, k3, mv]
        rfl
      · have k4 : ((L.panes.length : Int) == 1) = true := by have := k2.resolve_left k3; rw [this]; rfl
        have k3 : (cell / 22 % 6 == 4) = false := by simpa using k3
        simp only [bodyD, pad, sqS, ifS, orB, andB, notB, tb, bn, un, vr, kk, rtS, rnS, exS, orE, andE, chn, ifE, trB, passS, noS, setS, asgS, parS, axc, axn, flE, lsE, tupE, clE, mthE, mkE, lmE, forS, sqI, rg1, rg2, gSb, gFd, setFS, augFS, gNm, gTp, gsC, gsN, augS, augI, bkS, ctS, whS, slE, oxn, oxs, lpS, List.map_cons, List.map_nil, List.length_cons, List.length_nil, List.replicate, List.cons_append, List.nil_append, Nat.reduceAdd, Nat.reduceSub, List.getElem?_cons_succ, List.getElem?_cons_zero, List.set_cons_zero, List.set_cons_succ, R.toS_ok, R.bind_ok, R.toS_ite, R.bind_ite, SR.go_nx, SR.go_rt, SR.go_bk, SR.go_ct, SR.go_ite, SR.lp_nx, SR.lp_rt, SR.lp_bk, SR.lp_ct, SR.lp_ite, fin_nx, fin_rt, fin_ite, W.cb_bl, if_true, if_false, Bool.false_eq_true, eq_int, ne_int, eq_bl, ne_bl, mx2, mn2, int0, notW, truW, fdiv_ok, mod_ok, mul_okl, add_int, neg_int, int_bl, int_int, listLF_fl, listF_fl, listF_tup, listLF_tup, Int.reduceLT, Int.reduceLE, Int.reduceNeg, decide_true, decide_false, nxS, nxA, nxE, R.nox_ok, R.nox_ite, SR.nox_nx, SR.nox_rt, SR.nox_ite, R.bind_ex, R.toS_ex, SR.go_ex, fin_ex, k1, decide_false, k3, ln, k4, mv]
        rfl
    · have k3 : (cell / 22 % 6 == 4) = false := by simpa using fun z => k2 (.inl z)
      have k5 : L.panes.length ≠ 1 := fun z => k2 (.inr z)
      have k4 : ((L.panes.length : Int) == 1) = false := by
        have : ¬ (L.panes.length : Int) = 1 := by omega
        simpa using this
      have hne : L ≠ .pane q := len_ne (by omega)
      have hnd : ∃ b ps, L = .node b ps := by
        cases L with
        | pane p => rw [panes_pane] at k5; simp at k5
        | node b ps => exact ⟨b, ps, rfl⟩
      have wo := without_ok (q := q) (st := s) (so.mono (M := 20) (by omega)) hw hh hnd
      obtain ⟨sm, pm⟩ := so.without (by omega) hw hh hne (w := w) (k := h)
      refine ⟨L.without w h q, L.panes.filter fun p => p ≠ q, ?_, sm.mono (by omega), fun p hpm => by rw [pm] at hpm; have := hp p (List.mem_filter.mp hpm).1; omega, by rw [pm]⟩
      refine pre _ _ _ ?_
      have lc : lcE [9] (sqI (vr 5)) (ct1 9) (tb (bn neW (vr 9) (vr 6))) (vr 9) [some (layW L), some (.int w), some (.int h), some (.int cell), some (.int new), some (.fl (L.panes.map W.int)), some (.int q), some (.str (wayS b)), some (.int (cell / 22 % 6)), none] s = .ok (intsW (L.panes.filter fun p => p ≠ q)) s := by
        have := so.ln
        rw [← filter_ints]
        refine lcE_fl (ws := L.panes.map W.int) (by simp only [bodyD, pad, sqS, ifS, orB, andB, notB, tb, bn, un, vr, kk, rtS, rnS, exS, orE, andE, chn, ifE, trB, passS, noS, setS, asgS, parS, axc, axn, flE, lsE, tupE, clE, mthE, mkE, lmE, forS, sqI, rg1, rg2, gSb, gFd, setFS, augFS, gNm, gTp, gsC, gsN, augS, augI, bkS, ctS, whS, slE, oxn, oxs, lpS, List.map_cons, List.map_nil, List.length_cons, List.length_nil, List.replicate, List.cons_append, List.nil_append, Nat.reduceAdd, Nat.reduceSub, List.getElem?_cons_succ, List.getElem?_cons_zero, List.set_cons_zero, List.set_cons_succ, R.toS_ok, R.bind_ok, R.toS_ite, R.bind_ite, SR.go_nx, SR.go_rt, SR.go_bk, SR.go_ct, SR.go_ite, SR.lp_nx, SR.lp_rt, SR.lp_bk, SR.lp_ct, SR.lp_ite, fin_nx, fin_rt, fin_ite, W.cb_bl, if_true, if_false, Bool.false_eq_true, eq_int, ne_int, eq_bl, ne_bl, mx2, mn2, int0, notW, truW, fdiv_ok, mod_ok, mul_okl, add_int, neg_int, int_bl, int_int, listLF_fl, listF_fl, listF_tup, listLF_tup, Int.reduceLT, Int.reduceLE, Int.reduceNeg, decide_true, decide_false, nxS, nxA, nxE, R.nox_ok, R.nox_ite, SR.nox_nx, SR.nox_rt, SR.nox_ite, R.bind_ex, R.toS_ex, SR.go_ex, fin_ex]) (by rw [List.length_map]; omega) ?_
        refine lcL_map (enc := W.int) (p := fun p => !(p == q)) (f := W.int) _ fun x _ => ⟨_, rfl, ?_, fun _ => rfl⟩
        simp only [bodyD, pad, sqS, ifS, orB, andB, notB, tb, bn, un, vr, kk, rtS, rnS, exS, orE, andE, chn, ifE, trB, passS, noS, setS, asgS, parS, axc, axn, flE, lsE, tupE, clE, mthE, mkE, lmE, forS, sqI, rg1, rg2, gSb, gFd, setFS, augFS, gNm, gTp, gsC, gsN, augS, augI, bkS, ctS, whS, slE, oxn, oxs, lpS, List.map_cons, List.map_nil, List.length_cons, List.length_nil, List.replicate, List.cons_append, List.nil_append, Nat.reduceAdd, Nat.reduceSub, List.getElem?_cons_succ, List.getElem?_cons_zero, List.set_cons_zero, List.set_cons_succ, R.toS_ok, R.bind_ok, R.toS_ite, R.bind_ite, SR.go_nx, SR.go_rt, SR.go_bk, SR.go_ct, SR.go_ite, SR.lp_nx, SR.lp_rt, SR.lp_bk, SR.lp_ct, SR.lp_ite, fin_nx, fin_rt, fin_ite, W.cb_bl, if_true, if_false, Bool.false_eq_true, eq_int, ne_int, eq_bl, ne_bl, mx2, mn2, int0, notW, truW, fdiv_ok, mod_ok, mul_okl, add_int, neg_int, int_bl, int_int, listLF_fl, listF_fl, listF_tup, listLF_tup, Int.reduceLT, Int.reduceLE, Int.reduceNeg, decide_true, decide_false, nxS, nxA, nxE, R.nox_ok, R.nox_ite, SR.nox_nx, SR.nox_rt, SR.nox_ite, R.bind_ex, R.toS_ex, SR.go_ex, fin_ex, wipeE]
      simp only [bodyD, pad, sqS, ifS, orB, andB, notB, tb, bn, un, vr, kk, rtS, rnS, exS, orE, andE, chn, ifE, trB, passS, noS, setS, asgS, parS, axc, axn, flE, lsE, tupE, clE, mthE, mkE, lmE, forS, sqI, rg1, rg2, gSb, gFd, setFS, augFS, gNm, gTp, gsC, gsN, augS, augI, bkS, ctS, whS, slE, oxn, oxs, lpS, List.map_cons, List.map_nil, List.length_cons, List.length_nil, List.replicate, List.cons_append, List.nil_append, Nat.reduceAdd, Nat.reduceSub, List.getElem?_cons_succ, List.getElem?_cons_zero, List.set_cons_zero, List.set_cons_succ, R.toS_ok, R.bind_ok, R.toS_ite, R.bind_ite, SR.go_nx, SR.go_rt, SR.go_bk, SR.go_ct, SR.go_ite, SR.lp_nx, SR.lp_rt, SR.lp_bk, SR.lp_ct, SR.lp_ite, fin_nx, fin_rt, fin_ite, W.cb_bl, if_true, if_false, Bool.false_eq_true, eq_int, ne_int, eq_bl, ne_bl, mx2, mn2, int0, notW, truW, fdiv_ok, mod_ok, mul_okl, add_int, neg_int, int_bl, int_int, listLF_fl, listF_fl, listF_tup, listLF_tup, Int.reduceLT, Int.reduceLE, Int.reduceNeg, decide_true, decide_false, nxS, nxA, nxE, R.nox_ok, R.nox_ite, SR.nox_nx, SR.nox_rt, SR.nox_ite, R.bind_ex, R.toS_ex, SR.go_ex, fin_ex, k1, decide_false, k3, ln, k4, wo, lc]

def b_law_0 : Sx := (sqS (ifS (tb (bn eqW (bn modW (bn fdivW (clE intF (axc (vr 5) axn)) (kk (.int 5412))) (kk (.int 5))) (kk (.int 1)))) (sqS (setS 1 (bn addW (kk (.int 2)) (bn modW (bn fdivW (clE intF (axc (vr 5) axn)) (kk (.int 27060))) (kk (.int 39))))) (setS 2 (bn addW (kk (.int 1)) (bn modW (bn fdivW (clE intF (axc (vr 5) axn)) (kk (.int 1055340))) (kk (.int 20)))))) passS) (sqS (setS 4 (bn addW (vr 4) (kk (.int 1)))) (sqS (asgS (clE d__law_step (axc (vr 3) (axc (vr 1) (axc (vr 2) (axc (clE intF (axc (vr 5) axn)) (axc (vr 4) axn)))))) (gTp 2 (gsC (gNm 3) (gsC (gNm 6) gsN)))) (sqS (ifS (tb (bn neW (clE sortF (axc (clE (d_panes 20) (axc (vr 3) axn)) axn)) (clE sortF (axc (vr 6) axn)))) (rtS (kk (.bl false))) passS) (sqS (setS 7 (clE d_boxes (axc (vr 3) (axc (vr 1) (axc (vr 2) axn))))) (sqS (setS 8 (clE (d_least 20) (axc (vr 3) axn))) (sqS (setS 9 (clE d__law_sheet (axc (vr 7) (axc (clE maxF (axc (vr 1) (axc (bn ixW (vr 8) (kk (.int 0))) axn))) (axc (clE maxF (axc (vr 2) (axc (bn ixW (vr 8) (kk (.int 1))) axn))) axn))))) (sqS (ifS (orB (tb (un isnW (vr 9))) (tb (bn neW (lcE [11] (sqI (vr 7)) (ct1 11) yesB (bn ixW (vr 11) (kk (.int 0)))) (clE (d_panes 20) (axc (vr 3) axn))))) (rtS (kk (.bl false))) passS) (sqS (ifS (notB (trB (clE d__law_borders_right (axc (vr 9) (axc (clE maxF (axc (vr 1) (axc (bn ixW (vr 8) (kk (.int 0))) axn))) (axc (clE maxF (axc (vr 2) (axc (bn ixW (vr 8) (kk (.int 1))) axn))) axn)))))) (rtS (kk (.bl false))) passS) (sqS (setS 10 (clE sumF (axc (lcE [11] (sqI (vr 7)) (ct1 11) yesB (bn mulW (bn ixW (vr 11) (kk (.int 3))) (bn ixW (vr 11) (kk (.int 4))))) axn))) (ifS (andB (tb (bn eqW (clE lenF (axc (vr 7) axn)) (kk (.int 1)))) (tb (bn neW (vr 10) (bn mulW (clE maxF (axc (vr 1) (axc (bn ixW (vr 8) (kk (.int 0))) axn))) (clE maxF (axc (vr 2) (axc (bn ixW (vr 8) (kk (.int 1))) axn))))))) (rtS (kk (.bl false))) passS)))))))))))
def t_law_0 : Sx := (setS 1 (bn addW (kk (.int 2)) (bn modW (clE d__law_cell (axc (vr 0) (axc (kk (.int 0)) axn))) (kk (.int 39)))))
def t_law_1 : Sx := (setS 2 (bn addW (kk (.int 1)) (bn modW (bn fdivW (clE d__law_cell (axc (vr 0) (axc (kk (.int 0)) axn))) (kk (.int 39))) (kk (.int 20)))))
def t_law_2 : Sx := (setS 3 (kk (.int 1)))
def t_law_3 : Sx := (setS 4 (kk (.int 1)))
def t_law_4 : Sx := (forS (sqI (slE slF (vr 0) (oxs (kk (.int 1))) (oxs (kk (.int 16))))) (gNm 5) b_law_0)
def t_law_5 : Sx := (rtS (bn eqW (clE (d_fitted 20) (axc (vr 3) (axc (vr 1) (axc (vr 2) axn)))) (clE (d_fitted 20) (axc (clE (d_fitted 20) (axc (vr 3) (axc (vr 1) (axc (vr 2) axn)))) (axc (vr 1) (axc (vr 2) axn))))))
/-! law -/
def r_law : List W → Sto → R W := bodyD 12 (sqS t_law_0 (sqS t_law_1 (sqS t_law_2 (sqS t_law_3 (sqS t_law_4 t_law_5)))))
abbrev d_law : List W → Sto → R W := r_law
theorem isort_perm_eq {a b : List Int} (h : a.Perm b) : isort a = isort b := up_one ((isort_perm a).trans (h.trans (isort_perm b).symm)) (isort_up a) (isort_up b)
theorem sort_fl (xs : List Int) (s : Sto) : sortF [.fl (xs.map W.int)] s = .ok (intsW (isort xs)) s := by
  simp only [sortF, lstK_fl, Option.bind_some, intsOf_map]
  rfl
theorem law_body {N : Nat} {L : Lay} {X : W} {w h new c : Int} (so : Sound N L) (hN : N ≤ 17) (hw : 2 ≤ w ∧ w ≤ 40) (hh : 1 ≤ h ∧ h ≤ 20) (hp : ∀ p ∈ L.panes, 1 ≤ p ∧ p ≤ new) (hn : new ≤ 900) (o6 o7 o8 o9 o10 o11 : Option W) :
    ∃ M w1 h1 p6 p7 p8 p9 p10 p11, b_law_0 [some X, some (.int w), some (.int h), some (layW L), some (.int new), some (.int c), o6, o7, o8, o9, o10, o11] [] = .nx [some X, some (.int w1), some (.int h1), some (layW M), some (.int (new + 1)), some (.int c), p6, p7, p8, p9, p10, p11] [] ∧
      Sound (N + 1) M ∧ (2 ≤ w1 ∧ w1 ≤ 40) ∧ (1 ≤ h1 ∧ h1 ≤ 20) ∧ ∀ p ∈ M.panes, 1 ≤ p ∧ p ≤ new + 1 := by
  obtain ⟨w1, h1, b1, b2, e0⟩ : ∃ w1 h1 : Int, (2 ≤ w1 ∧ w1 ≤ 40) ∧ (1 ≤ h1 ∧ h1 ≤ 20) ∧ ifS (tb (bn eqW (bn modW (bn fdivW (clE intF (axc (vr 5) axn)) (kk (.int 5412))) (kk (.int 5))) (kk (.int 1)))) (sqS (setS 1 (bn addW (kk (.int 2)) (bn modW (bn fdivW (clE intF (axc (vr 5) axn)) (kk (.int 27060))) (kk (.int 39))))) (setS 2 (bn addW (kk (.int 1)) (bn modW (bn fdivW (clE intF (axc (vr 5) axn)) (kk (.int 1055340))) (kk (.int 20)))))) passS [some X, some (.int w), some (.int h), some (layW L), some (.int new), some (.int c), o6, o7, o8, o9, o10, o11] [] = .nx [some X, some (.int w1), some (.int h1), some (layW L), some (.int new), some (.int c), o6, o7, o8, o9, o10, o11] [] := by
    by_cases k : c / 5412 % 5 = 1
    · have k : (c / 5412 % 5 == 1) = true := by simpa using k
      exact ⟨2 + c / 27060 % 39, 1 + c / 1055340 % 20, by omega, by omega, by simp only [bodyD, pad, sqS, ifS, orB, andB, notB, tb, bn, un, vr, kk, rtS, rnS, exS, orE, andE, chn, ifE, trB, passS, noS, setS, asgS, parS, axc, axn, flE, lsE, tupE, clE, mthE, mkE, lmE, forS, sqI, rg1, rg2, gSb, gFd, setFS, augFS, gNm, gTp, gsC, gsN, augS, augI, bkS, ctS, whS, slE, oxn, oxs, lpS, List.map_cons, List.map_nil, List.length_cons, List.length_nil, List.replicate, List.cons_append, List.nil_append, Nat.reduceAdd, Nat.reduceSub, List.getElem?_cons_succ, List.getElem?_cons_zero, List.set_cons_zero, List.set_cons_succ, R.toS_ok, R.bind_ok, R.toS_ite, R.bind_ite, SR.go_nx, SR.go_rt, SR.go_bk, SR.go_ct, SR.go_ite, SR.lp_nx, SR.lp_rt, SR.lp_bk, SR.lp_ct, SR.lp_ite, fin_nx, fin_rt, fin_ite, W.cb_bl, if_true, if_false, Bool.false_eq_true, eq_int, ne_int, eq_bl, ne_bl, mx2, mn2, int0, notW, truW, fdiv_ok, mod_ok, mul_okl, add_int, neg_int, int_bl, int_int, listLF_fl, listF_fl, listF_tup, listLF_tup, Int.reduceLT, Int.reduceLE, Int.reduceNeg, decide_true, decide_false, nxS, nxA, nxE, R.nox_ok, R.nox_ite, SR.nox_nx, SR.nox_rt, SR.nox_ite, R.bind_ex, R.toS_ex, SR.go_ex, fin_ex, k]⟩
    · have k : (c / 5412 % 5 == 1) = false := by simpa using k
      exact ⟨w, h, hw, hh, by simp only [bodyD, pad, sqS, ifS, orB, andB, notB, tb, bn, un, vr, kk, rtS, rnS, exS, orE, andE, chn, ifE, trB, passS, noS, setS, asgS, parS, axc, axn, flE, lsE, tupE, clE, mthE, mkE, lmE, forS, sqI, rg1, rg2, gSb, gFd, setFS, augFS, gNm, gTp, gsC, gsN, augS, augI, bkS, ctS, whS, slE, oxn, oxs, lpS, List.map_cons, List.map_nil, List.length_cons, List.length_nil, List.replicate, List.cons_append, List.nil_append, Nat.reduceAdd, Nat.reduceSub, List.getElem?_cons_succ, List.getElem?_cons_zero, List.set_cons_zero, List.set_cons_succ, R.toS_ok, R.bind_ok, R.toS_ite, R.bind_ite, SR.go_nx, SR.go_rt, SR.go_bk, SR.go_ct, SR.go_ite, SR.lp_nx, SR.lp_rt, SR.lp_bk, SR.lp_ct, SR.lp_ite, fin_nx, fin_rt, fin_ite, W.cb_bl, if_true, if_false, Bool.false_eq_true, eq_int, ne_int, eq_bl, ne_bl, mx2, mn2, int0, notW, truW, fdiv_ok, mod_ok, mul_okl, add_int, neg_int, int_bl, int_int, listLF_fl, listF_fl, listF_tup, listLF_tup, Int.reduceLT, Int.reduceLE, Int.reduceNeg, decide_true, decide_false, nxS, nxA, nxE, R.nox_ok, R.nox_ite, SR.nox_nx, SR.nox_rt, SR.nox_ite, R.bind_ex, R.toS_ex, SR.go_ex, fin_ex, k]⟩
  obtain ⟨M, ks, e2, sm, pm, pk⟩ := step_ok (w := w1) (h := h1) (cell := c) (new := new + 1) so (by omega) (by omega) (by omega) (fun p hp' => by have := hp p hp'; omega) (by omega) []
  have pm' : ∀ p ∈ M.panes, 1 ≤ p ∧ p ≤ new + 1 := fun p z => by have := pm p z; omega
  have g : Good 20 M := sm.good (by omega) (by omega)
  have pn := panes_ok (st := []) g
  have s1 := sort_fl M.panes []
  have s2 := sort_fl ks []
  rw [← isort_perm_eq pk] at s2
  have ne1 := ints_ne (isort M.panes) (isort M.panes) []
  rw [decide_eq_true rfl] at ne1
  have bx := boxes_ok (w := w1) (h := h1) (st := []) g (by omega) (by omega)
  have lo := least_ok (st := []) g
  have l0 : ∀ s, ixW (lowW M.low) (.int 0) s = .ok (.int M.low.1) s := fun s => rfl
  have l1 : ∀ s, ixW (lowW M.low) (.int 1) s = .ok (.int M.low.2) s := fun s => rfl
  have lp := low_pos sm.ok
  have ll := low_le sm.ok
  have tight := fit_tight (by omega) sm.ok (by have := sm.ln; omega) (fun p hp => by have := pm p hp; omega) w1 h1
  have bp : (M.allBoxes w1 h1).map (·.1) = M.panes := by
    unfold Lay.allBoxes
    rw [boxes_panes, fit_panes]
  have bl : (M.allBoxes w1 h1).length = M.panes.length := by rw [← bp, List.length_map]
  have one : M.panes.length = 1 → ((M.allBoxes w1 h1).map fun b => b.2.2.2.1 * b.2.2.2.2).sum = max w1 M.low.1 * max h1 M.low.2 := fun z => by
    cases M with
    | pane p =>
      unfold Lay.allBoxes
      rw [fit_pane, boxes_pane]
      simp
    | node b ps =>
      have := parts_len sm.ok
      have := sm.ok.two
      omega
  obtain ⟨ins, apt⟩ := tight.inside 0 0
  have sh := tight.sheet 0 0
  have eB : (M.fit w1 h1).boxes 0 0 (max w1 M.low.1) (max h1 M.low.2) = M.allBoxes w1 h1 := rfl
  rw [eB] at ins apt sh
  generalize M.allBoxes w1 h1 = bs at *
  have mxw : max w1 M.low.1 ≤ 1000 := by have := sm.ln; omega
  have mxh : max h1 M.low.2 ≤ 1000 := by have := sm.ln; omega
  obtain ⟨Wn, eW⟩ := Int.eq_ofNat_of_zero_le (show 0 ≤ max w1 M.low.1 by omega)
  obtain ⟨Hn, eH⟩ := Int.eq_ofNat_of_zero_le (show 0 ≤ max h1 M.low.2 by omega)
  rw [eW, eH] at ins sh one
  rw [eW] at mxw
  rw [eH] at mxh
  have shk := sheet_ok (st := []) ins apt (by omega) (by omega)
  have bo := borders_ok sh (by omega) (by omega) []
  have isn : isnW (gridW (cellAt bs) Wn Hn) [] = .ok (.bl false) [] := rfl
  have lc1 : ∀ env : En, env = [some X, some (.int w1), some (.int h1), some (layW M), some (.int (new + 1)), some (.int c), some (intsW ks), some (.fl (bs.map boxW)), some (lowW M.low), some (gridW (cellAt bs) Wn Hn), o10, o11] → lcE [11] (sqI (vr 7)) (ct1 11) yesB (bn ixW (vr 11) (kk (.int 0))) env [] = .ok (intsW M.panes) [] := by
    rintro _ rfl
    have := sm.ln
    rw [← bp]
    rw [lcE_fl (ws := bs.map boxW) (st := []) (ys := bs.map fun b => W.int b.1) (by simp only [bodyD, pad, sqS, ifS, orB, andB, notB, tb, bn, un, vr, kk, rtS, rnS, exS, orE, andE, chn, ifE, trB, passS, noS, setS, asgS, parS, axc, axn, flE, lsE, tupE, clE, mthE, mkE, lmE, forS, sqI, rg1, rg2, gSb, gFd, setFS, augFS, gNm, gTp, gsC, gsN, augS, augI, bkS, ctS, whS, slE, oxn, oxs, lpS, List.map_cons, List.map_nil, List.length_cons, List.length_nil, List.replicate, List.cons_append, List.nil_append, Nat.reduceAdd, Nat.reduceSub, List.getElem?_cons_succ, List.getElem?_cons_zero, List.set_cons_zero, List.set_cons_succ, R.toS_ok, R.bind_ok, R.toS_ite, R.bind_ite, SR.go_nx, SR.go_rt, SR.go_bk, SR.go_ct, SR.go_ite, SR.lp_nx, SR.lp_rt, SR.lp_bk, SR.lp_ct, SR.lp_ite, fin_nx, fin_rt, fin_ite, W.cb_bl, if_true, if_false, Bool.false_eq_true, eq_int, ne_int, eq_bl, ne_bl, mx2, mn2, int0, notW, truW, fdiv_ok, mod_ok, mul_okl, add_int, neg_int, int_bl, int_int, listLF_fl, listF_fl, listF_tup, listLF_tup, Int.reduceLT, Int.reduceLE, Int.reduceNeg, decide_true, decide_false, nxS, nxA, nxE, R.nox_ok, R.nox_ite, SR.nox_nx, SR.nox_rt, SR.nox_ite, R.bind_ex, R.toS_ex, SR.go_ex, fin_ex]) (by rw [List.length_map]; omega) ?_]
    · unfold intsW; rw [List.map_map]; rfl
    · refine lcL_map1 (enc := boxW) (f := fun b => W.int b.1) _ fun x _ => ⟨_, rfl, ?_⟩
      have i0 : ∀ s, ixW (boxW x) (.int 0) s = .ok (.int x.1) s := fun s => rfl
      simp only [bodyD, pad, sqS, ifS, orB, andB, notB, tb, bn, un, vr, kk, rtS, rnS, exS, orE, andE, chn, ifE, trB, passS, noS, setS, asgS, parS, axc, axn, flE, lsE, tupE, clE, mthE, mkE, lmE, forS, sqI, rg1, rg2, gSb, gFd, setFS, augFS, gNm, gTp, gsC, gsN, augS, augI, bkS, ctS, whS, slE, oxn, oxs, lpS, List.map_cons, List.map_nil, List.length_cons, List.length_nil, List.replicate, List.cons_append, List.nil_append, Nat.reduceAdd, Nat.reduceSub, List.getElem?_cons_succ, List.getElem?_cons_zero, List.set_cons_zero, List.set_cons_succ, R.toS_ok, R.bind_ok, R.toS_ite, R.bind_ite, SR.go_nx, SR.go_rt, SR.go_bk, SR.go_ct, SR.go_ite, SR.lp_nx, SR.lp_rt, SR.lp_bk, SR.lp_ct, SR.lp_ite, fin_nx, fin_rt, fin_ite, W.cb_bl, if_true, if_false, Bool.false_eq_true, eq_int, ne_int, eq_bl, ne_bl, mx2, mn2, int0, notW, truW, fdiv_ok, mod_ok, mul_okl, add_int, neg_int, int_bl, int_int, listLF_fl, listF_fl, listF_tup, listLF_tup, Int.reduceLT, Int.reduceLE, Int.reduceNeg, decide_true, decide_false, nxS, nxA, nxE, R.nox_ok, R.nox_ite, SR.nox_nx, SR.nox_rt, SR.nox_ite, R.bind_ex, R.toS_ex, SR.go_ex, fin_ex, wipeE, i0]
  have lc1 := lc1 _ rfl
  have ne2 := ints_ne M.panes M.panes []
  rw [decide_eq_true rfl] at ne2
  have lc2 : ∀ env : En, env = [some X, some (.int w1), some (.int h1), some (layW M), some (.int (new + 1)), some (.int c), some (intsW ks), some (.fl (bs.map boxW)), some (lowW M.low), some (gridW (cellAt bs) Wn Hn), o10, o11] → lcE [11] (sqI (vr 7)) (ct1 11) yesB (bn mulW (bn ixW (vr 11) (kk (.int 3))) (bn ixW (vr 11) (kk (.int 4)))) env [] = .ok (.fl ((bs.map fun b => b.2.2.2.1 * b.2.2.2.2).map W.int)) [] := by
    rintro _ rfl
    have := sm.ln
    rw [lcE_fl (ws := bs.map boxW) (st := []) (ys := bs.map fun b => W.int (b.2.2.2.1 * b.2.2.2.2)) (by simp only [bodyD, pad, sqS, ifS, orB, andB, notB, tb, bn, un, vr, kk, rtS, rnS, exS, orE, andE, chn, ifE, trB, passS, noS, setS, asgS, parS, axc, axn, flE, lsE, tupE, clE, mthE, mkE, lmE, forS, sqI, rg1, rg2, gSb, gFd, setFS, augFS, gNm, gTp, gsC, gsN, augS, augI, bkS, ctS, whS, slE, oxn, oxs, lpS, List.map_cons, List.map_nil, List.length_cons, List.length_nil, List.replicate, List.cons_append, List.nil_append, Nat.reduceAdd, Nat.reduceSub, List.getElem?_cons_succ, List.getElem?_cons_zero, List.set_cons_zero, List.set_cons_succ, R.toS_ok, R.bind_ok, R.toS_ite, R.bind_ite, SR.go_nx, SR.go_rt, SR.go_bk, SR.go_ct, SR.go_ite, SR.lp_nx, SR.lp_rt, SR.lp_bk, SR.lp_ct, SR.lp_ite, fin_nx, fin_rt, fin_ite, W.cb_bl, if_true, if_false, Bool.false_eq_true, eq_int, ne_int, eq_bl, ne_bl, mx2, mn2, int0, notW, truW, fdiv_ok, mod_ok, mul_okl, add_int, neg_int, int_bl, int_int, listLF_fl, listF_fl, listF_tup, listLF_tup, Int.reduceLT, Int.reduceLE, Int.reduceNeg, decide_true, decide_false, nxS, nxA, nxE, R.nox_ok, R.nox_ite, SR.nox_nx, SR.nox_rt, SR.nox_ite, R.bind_ex, R.toS_ex, SR.go_ex, fin_ex]) (by rw [List.length_map]; omega) ?_, List.map_map]
    · rfl
    · refine lcL_map1 (enc := boxW) (f := fun b => W.int (b.2.2.2.1 * b.2.2.2.2)) _ fun x hx => ⟨_, rfl, ?_⟩
      have i3 : ∀ s, ixW (boxW x) (.int 3) s = .ok (.int x.2.2.2.1) s := fun s => rfl
      have i4 : ∀ s, ixW (boxW x) (.int 4) s = .ok (.int x.2.2.2.2) s := fun s => rfl
      obtain ⟨_, a2, a3, a4, a5, a6, a7⟩ := ins x hx
      have m1 : -18446744073709551616 < x.2.2.2.1 := by omega
      have m2 : x.2.2.2.1 < 18446744073709551616 := by omega
      simp only [bodyD, pad, sqS, ifS, orB, andB, notB, tb, bn, un, vr, kk, rtS, rnS, exS, orE, andE, chn, ifE, trB, passS, noS, setS, asgS, parS, axc, axn, flE, lsE, tupE, clE, mthE, mkE, lmE, forS, sqI, rg1, rg2, gSb, gFd, setFS, augFS, gNm, gTp, gsC, gsN, augS, augI, bkS, ctS, whS, slE, oxn, oxs, lpS, List.map_cons, List.map_nil, List.length_cons, List.length_nil, List.replicate, List.cons_append, List.nil_append, Nat.reduceAdd, Nat.reduceSub, List.getElem?_cons_succ, List.getElem?_cons_zero, List.set_cons_zero, List.set_cons_succ, R.toS_ok, R.bind_ok, R.toS_ite, R.bind_ite, SR.go_nx, SR.go_rt, SR.go_bk, SR.go_ct, SR.go_ite, SR.lp_nx, SR.lp_rt, SR.lp_bk, SR.lp_ct, SR.lp_ite, fin_nx, fin_rt, fin_ite, W.cb_bl, if_true, if_false, Bool.false_eq_true, eq_int, ne_int, eq_bl, ne_bl, mx2, mn2, int0, notW, truW, fdiv_ok, mod_ok, mul_okl, add_int, neg_int, int_bl, int_int, listLF_fl, listF_fl, listF_tup, listLF_tup, Int.reduceLT, Int.reduceLE, Int.reduceNeg, decide_true, decide_false, nxS, nxA, nxE, R.nox_ok, R.nox_ite, SR.nox_nx, SR.nox_rt, SR.nox_ite, R.bind_ex, R.toS_ex, SR.go_ex, fin_ex, wipeE, i3, i4, m1, m2]
  have lc2 := lc2 _ rfl
  have sumk : sumF [.fl ((bs.map fun b => b.2.2.2.1 * b.2.2.2.2).map W.int)] [] = .ok (.int (bs.map fun b => b.2.2.2.1 * b.2.2.2.2).sum) [] := by
    simp only [sumF, lstK_fl, Option.bind_some, intsOf_map]
  generalize (bs.map fun b => b.2.2.2.1 * b.2.2.2.2) = ar at *
  have lnb : ∀ s, lenF [.fl (bs.map boxW)] s = .ok (.int (bs.length : Int)) s := fun s => by simp [lenF, seqOf, lstOf]
  have m1 : -18446744073709551616 < (Wn : Int) := by omega
  have m2 : (Wn : Int) < 18446744073709551616 := by omega
  refine ⟨M, w1, h1, some (intsW ks), some (.fl (bs.map boxW)), some (lowW M.low), some (gridW (cellAt bs) Wn Hn), some (.int ar.sum), o11, ?_, sm, b1, b2, pm'⟩
  unfold b_law_0
  rw [sq_nx e0]
  rw [sq_nx (e := [some X, some (.int w1), some (.int h1), some (layW L), some (.int (new + 1)), some (.int c), o6, o7, o8, o9, o10, o11]) (s := []) (by simp only [bodyD, pad, sqS, ifS, orB, andB, notB, tb, bn, un, vr, kk, rtS, rnS, exS, orE, andE, chn, ifE, trB, passS, noS, setS, asgS, parS, axc, axn, flE, lsE, tupE, clE, mthE, mkE, lmE, forS, sqI, rg1, rg2, gSb, gFd, setFS, augFS, gNm, gTp, gsC, gsN, augS, augI, bkS, ctS, whS, slE, oxn, oxs, lpS, List.map_cons, List.map_nil, List.length_cons, List.length_nil, List.replicate, List.cons_append, List.nil_append, Nat.reduceAdd, Nat.reduceSub, List.getElem?_cons_succ, List.getElem?_cons_zero, List.set_cons_zero, List.set_cons_succ, R.toS_ok, R.bind_ok, R.toS_ite, R.bind_ite, SR.go_nx, SR.go_rt, SR.go_bk, SR.go_ct, SR.go_ite, SR.lp_nx, SR.lp_rt, SR.lp_bk, SR.lp_ct, SR.lp_ite, fin_nx, fin_rt, fin_ite, W.cb_bl, if_true, if_false, Bool.false_eq_true, eq_int, ne_int, eq_bl, ne_bl, mx2, mn2, int0, notW, truW, fdiv_ok, mod_ok, mul_okl, add_int, neg_int, int_bl, int_int, listLF_fl, listF_fl, listF_tup, listLF_tup, Int.reduceLT, Int.reduceLE, Int.reduceNeg, decide_true, decide_false, nxS, nxA, nxE, R.nox_ok, R.nox_ite, SR.nox_nx, SR.nox_rt, SR.nox_ite, R.bind_ex, R.toS_ex, SR.go_ex, fin_ex])]
  rw [sq_nx (e := [some X, some (.int w1), some (.int h1), some (layW M), some (.int (new + 1)), some (.int c), some (intsW ks), o7, o8, o9, o10, o11]) (s := []) (by simp only [bodyD, pad, sqS, ifS, orB, andB, notB, tb, bn, un, vr, kk, rtS, rnS, exS, orE, andE, chn, ifE, trB, passS, noS, setS, asgS, parS, axc, axn, flE, lsE, tupE, clE, mthE, mkE, lmE, forS, sqI, rg1, rg2, gSb, gFd, setFS, augFS, gNm, gTp, gsC, gsN, augS, augI, bkS, ctS, whS, slE, oxn, oxs, lpS, List.map_cons, List.map_nil, List.length_cons, List.length_nil, List.replicate, List.cons_append, List.nil_append, Nat.reduceAdd, Nat.reduceSub, List.getElem?_cons_succ, List.getElem?_cons_zero, List.set_cons_zero, List.set_cons_succ, R.toS_ok, R.bind_ok, R.toS_ite, R.bind_ite, SR.go_nx, SR.go_rt, SR.go_bk, SR.go_ct, SR.go_ite, SR.lp_nx, SR.lp_rt, SR.lp_bk, SR.lp_ct, SR.lp_ite, fin_nx, fin_rt, fin_ite, W.cb_bl, if_true, if_false, Bool.false_eq_true, eq_int, ne_int, eq_bl, ne_bl, mx2, mn2, int0, notW, truW, fdiv_ok, mod_ok, mul_okl, add_int, neg_int, int_bl, int_int, listLF_fl, listF_fl, listF_tup, listLF_tup, Int.reduceLT, Int.reduceLE, Int.reduceNeg, decide_true, decide_false, nxS, nxA, nxE, R.nox_ok, R.nox_ite, SR.nox_nx, SR.nox_rt, SR.nox_ite, R.bind_ex, R.toS_ex, SR.go_ex, fin_ex, e2])]
  rw [sq_nx (e := [some X, some (.int w1), some (.int h1), some (layW M), some (.int (new + 1)), some (.int c), some (intsW ks), o7, o8, o9, o10, o11]) (s := []) (by
    have s2' : sortF [intsW ks] [] = .ok (intsW (isort M.panes)) [] := s2
    simp only [bodyD, pad, sqS, ifS, orB, andB, notB, tb, bn, un, vr, kk, rtS, rnS, exS, orE, andE, chn, ifE, trB, passS, noS, setS, asgS, parS, axc, axn, flE, lsE, tupE, clE, mthE, mkE, lmE, forS, sqI, rg1, rg2, gSb, gFd, setFS, augFS, gNm, gTp, gsC, gsN, augS, augI, bkS, ctS, whS, slE, oxn, oxs, lpS, List.map_cons, List.map_nil, List.length_cons, List.length_nil, List.replicate, List.cons_append, List.nil_append, Nat.reduceAdd, Nat.reduceSub, List.getElem?_cons_succ, List.getElem?_cons_zero, List.set_cons_zero, List.set_cons_succ, R.toS_ok, R.bind_ok, R.toS_ite, R.bind_ite, SR.go_nx, SR.go_rt, SR.go_bk, SR.go_ct, SR.go_ite, SR.lp_nx, SR.lp_rt, SR.lp_bk, SR.lp_ct, SR.lp_ite, fin_nx, fin_rt, fin_ite, W.cb_bl, if_true, if_false, Bool.false_eq_true, eq_int, ne_int, eq_bl, ne_bl, mx2, mn2, int0, notW, truW, fdiv_ok, mod_ok, mul_okl, add_int, neg_int, int_bl, int_int, listLF_fl, listF_fl, listF_tup, listLF_tup, Int.reduceLT, Int.reduceLE, Int.reduceNeg, decide_true, decide_false, nxS, nxA, nxE, R.nox_ok, R.nox_ite, SR.nox_nx, SR.nox_rt, SR.nox_ite, R.bind_ex, R.toS_ex, SR.go_ex, fin_ex, pn, s1, s2', ne1, Bool.not_true])]
  rw [sq_nx (e := [some X, some (.int w1), some (.int h1), some (layW M), some (.int (new + 1)), some (.int c), some (intsW ks), some (.fl (bs.map boxW)), o8, o9, o10, o11]) (s := []) (by simp only [bodyD, pad, sqS, ifS, orB, andB, notB, tb, bn, un, vr, kk, rtS, rnS, exS, orE, andE, chn, ifE, trB, passS, noS, setS, asgS, parS, axc, axn, flE, lsE, tupE, clE, mthE, mkE, lmE, forS, sqI, rg1, rg2, gSb, gFd, setFS, augFS, gNm, gTp, gsC, gsN, augS, augI, bkS, ctS, whS, slE, oxn, oxs, lpS, List.map_cons, List.map_nil, List.length_cons, List.length_nil, List.replicate, List.cons_append, List.nil_append, Nat.reduceAdd, Nat.reduceSub, List.getElem?_cons_succ, List.getElem?_cons_zero, List.set_cons_zero, List.set_cons_succ, R.toS_ok, R.bind_ok, R.toS_ite, R.bind_ite, SR.go_nx, SR.go_rt, SR.go_bk, SR.go_ct, SR.go_ite, SR.lp_nx, SR.lp_rt, SR.lp_bk, SR.lp_ct, SR.lp_ite, fin_nx, fin_rt, fin_ite, W.cb_bl, if_true, if_false, Bool.false_eq_true, eq_int, ne_int, eq_bl, ne_bl, mx2, mn2, int0, notW, truW, fdiv_ok, mod_ok, mul_okl, add_int, neg_int, int_bl, int_int, listLF_fl, listF_fl, listF_tup, listLF_tup, Int.reduceLT, Int.reduceLE, Int.reduceNeg, decide_true, decide_false, nxS, nxA, nxE, R.nox_ok, R.nox_ite, SR.nox_nx, SR.nox_rt, SR.nox_ite, R.bind_ex, R.toS_ex, SR.go_ex, fin_ex, bx])]
  rw [sq_nx (e := [some X, some (.int w1), some (.int h1), some (layW M), some (.int (new + 1)), some (.int c), some (intsW ks), some (.fl (bs.map boxW)), some (lowW M.low), o9, o10, o11]) (s := []) (by simp only [bodyD, pad, sqS, ifS, orB, andB, notB, tb, bn, un, vr, kk, rtS, rnS, exS, orE, andE, chn, ifE, trB, passS, noS, setS, asgS, parS, axc, axn, flE, lsE, tupE, clE, mthE, mkE, lmE, forS, sqI, rg1, rg2, gSb, gFd, setFS, augFS, gNm, gTp, gsC, gsN, augS, augI, bkS, ctS, whS, slE, oxn, oxs, lpS, List.map_cons, List.map_nil, List.length_cons, List.length_nil, List.replicate, List.cons_append, List.nil_append, Nat.reduceAdd, Nat.reduceSub, List.getElem?_cons_succ, List.getElem?_cons_zero, List.set_cons_zero, List.set_cons_succ, R.toS_ok, R.bind_ok, R.toS_ite, R.bind_ite, SR.go_nx, SR.go_rt, SR.go_bk, SR.go_ct, SR.go_ite, SR.lp_nx, SR.lp_rt, SR.lp_bk, SR.lp_ct, SR.lp_ite, fin_nx, fin_rt, fin_ite, W.cb_bl, if_true, if_false, Bool.false_eq_true, eq_int, ne_int, eq_bl, ne_bl, mx2, mn2, int0, notW, truW, fdiv_ok, mod_ok, mul_okl, add_int, neg_int, int_bl, int_int, listLF_fl, listF_fl, listF_tup, listLF_tup, Int.reduceLT, Int.reduceLE, Int.reduceNeg, decide_true, decide_false, nxS, nxA, nxE, R.nox_ok, R.nox_ite, SR.nox_nx, SR.nox_rt, SR.nox_ite, R.bind_ex, R.toS_ex, SR.go_ex, fin_ex, lo])]
  rw [sq_nx (e := [some X, some (.int w1), some (.int h1), some (layW M), some (.int (new + 1)), some (.int c), some (intsW ks), some (.fl (bs.map boxW)), some (lowW M.low), some (gridW (cellAt bs) Wn Hn), o10, o11]) (s := []) (by simp only [bodyD, pad, sqS, ifS, orB, andB, notB, tb, bn, un, vr, kk, rtS, rnS, exS, orE, andE, chn, ifE, trB, passS, noS, setS, asgS, parS, axc, axn, flE, lsE, tupE, clE, mthE, mkE, lmE, forS, sqI, rg1, rg2, gSb, gFd, setFS, augFS, gNm, gTp, gsC, gsN, augS, augI, bkS, ctS, whS, slE, oxn, oxs, lpS, List.map_cons, List.map_nil, List.length_cons, List.length_nil, List.replicate, List.cons_append, List.nil_append, Nat.reduceAdd, Nat.reduceSub, List.getElem?_cons_succ, List.getElem?_cons_zero, List.set_cons_zero, List.set_cons_succ, R.toS_ok, R.bind_ok, R.toS_ite, R.bind_ite, SR.go_nx, SR.go_rt, SR.go_bk, SR.go_ct, SR.go_ite, SR.lp_nx, SR.lp_rt, SR.lp_bk, SR.lp_ct, SR.lp_ite, fin_nx, fin_rt, fin_ite, W.cb_bl, if_true, if_false, Bool.false_eq_true, eq_int, ne_int, eq_bl, ne_bl, mx2, mn2, int0, notW, truW, fdiv_ok, mod_ok, mul_okl, add_int, neg_int, int_bl, int_int, listLF_fl, listF_fl, listF_tup, listLF_tup, Int.reduceLT, Int.reduceLE, Int.reduceNeg, decide_true, decide_false, nxS, nxA, nxE, R.nox_ok, R.nox_ite, SR.nox_nx, SR.nox_rt, SR.nox_ite, R.bind_ex, R.toS_ex, SR.go_ex, fin_ex, l0, l1, eW, eH, shk])]
  rw [sq_nx (e := [some X, some (.int w1), some (.int h1), some (layW M), some (.int (new + 1)), some (.int c), some (intsW ks), some (.fl (bs.map boxW)), some (lowW M.low), some (gridW (cellAt bs) Wn Hn), o10, o11]) (s := []) (by
    have pn' : d_panes 20 [layW M] [] = .ok (intsW M.panes) [] := pn
    simp only [bodyD, pad, sqS, ifS, orB, andB, notB, tb, bn, un, vr, kk, rtS, rnS, exS, orE, andE, chn, ifE, trB, passS, noS, setS, asgS, parS, axc, axn, flE, lsE, tupE, clE, mthE, mkE, lmE, forS, sqI, rg1, rg2, gSb, gFd, setFS, augFS, gNm, gTp, gsC, gsN, augS, augI, bkS, ctS, whS, slE, oxn, oxs, lpS, List.map_cons, List.map_nil, List.length_cons, List.length_nil, List.replicate, List.cons_append, List.nil_append, Nat.reduceAdd, Nat.reduceSub, List.getElem?_cons_succ, List.getElem?_cons_zero, List.set_cons_zero, List.set_cons_succ, R.toS_ok, R.bind_ok, R.toS_ite, R.bind_ite, SR.go_nx, SR.go_rt, SR.go_bk, SR.go_ct, SR.go_ite, SR.lp_nx, SR.lp_rt, SR.lp_bk, SR.lp_ct, SR.lp_ite, fin_nx, fin_rt, fin_ite, W.cb_bl, if_true, if_false, Bool.false_eq_true, eq_int, ne_int, eq_bl, ne_bl, mx2, mn2, int0, notW, truW, fdiv_ok, mod_ok, mul_okl, add_int, neg_int, int_bl, int_int, listLF_fl, listF_fl, listF_tup, listLF_tup, Int.reduceLT, Int.reduceLE, Int.reduceNeg, decide_true, decide_false, nxS, nxA, nxE, R.nox_ok, R.nox_ite, SR.nox_nx, SR.nox_rt, SR.nox_ite, R.bind_ex, R.toS_ex, SR.go_ex, fin_ex, isn, lc1, pn', ne2, Bool.not_true])]
  rw [sq_nx (e := [some X, some (.int w1), some (.int h1), some (layW M), some (.int (new + 1)), some (.int c), some (intsW ks), some (.fl (bs.map boxW)), some (lowW M.low), some (gridW (cellAt bs) Wn Hn), o10, o11]) (s := []) (by simp only [bodyD, pad, sqS, ifS, orB, andB, notB, tb, bn, un, vr, kk, rtS, rnS, exS, orE, andE, chn, ifE, trB, passS, noS, setS, asgS, parS, axc, axn, flE, lsE, tupE, clE, mthE, mkE, lmE, forS, sqI, rg1, rg2, gSb, gFd, setFS, augFS, gNm, gTp, gsC, gsN, augS, augI, bkS, ctS, whS, slE, oxn, oxs, lpS, List.map_cons, List.map_nil, List.length_cons, List.length_nil, List.replicate, List.cons_append, List.nil_append, Nat.reduceAdd, Nat.reduceSub, List.getElem?_cons_succ, List.getElem?_cons_zero, List.set_cons_zero, List.set_cons_succ, R.toS_ok, R.bind_ok, R.toS_ite, R.bind_ite, SR.go_nx, SR.go_rt, SR.go_bk, SR.go_ct, SR.go_ite, SR.lp_nx, SR.lp_rt, SR.lp_bk, SR.lp_ct, SR.lp_ite, fin_nx, fin_rt, fin_ite, W.cb_bl, if_true, if_false, Bool.false_eq_true, eq_int, ne_int, eq_bl, ne_bl, mx2, mn2, int0, notW, truW, fdiv_ok, mod_ok, mul_okl, add_int, neg_int, int_bl, int_int, listLF_fl, listF_fl, listF_tup, listLF_tup, Int.reduceLT, Int.reduceLE, Int.reduceNeg, decide_true, decide_false, nxS, nxA, nxE, R.nox_ok, R.nox_ite, SR.nox_nx, SR.nox_rt, SR.nox_ite, R.bind_ex, R.toS_ex, SR.go_ex, fin_ex, l0, l1, eW, eH, bo, Bool.not_true])]
  rw [sq_nx (e := [some X, some (.int w1), some (.int h1), some (layW M), some (.int (new + 1)), some (.int c), some (intsW ks), some (.fl (bs.map boxW)), some (lowW M.low), some (gridW (cellAt bs) Wn Hn), some (.int ar.sum), o11]) (s := []) (by simp only [bodyD, pad, sqS, ifS, orB, andB, notB, tb, bn, un, vr, kk, rtS, rnS, exS, orE, andE, chn, ifE, trB, passS, noS, setS, asgS, parS, axc, axn, flE, lsE, tupE, clE, mthE, mkE, lmE, forS, sqI, rg1, rg2, gSb, gFd, setFS, augFS, gNm, gTp, gsC, gsN, augS, augI, bkS, ctS, whS, slE, oxn, oxs, lpS, List.map_cons, List.map_nil, List.length_cons, List.length_nil, List.replicate, List.cons_append, List.nil_append, Nat.reduceAdd, Nat.reduceSub, List.getElem?_cons_succ, List.getElem?_cons_zero, List.set_cons_zero, List.set_cons_succ, R.toS_ok, R.bind_ok, R.toS_ite, R.bind_ite, SR.go_nx, SR.go_rt, SR.go_bk, SR.go_ct, SR.go_ite, SR.lp_nx, SR.lp_rt, SR.lp_bk, SR.lp_ct, SR.lp_ite, fin_nx, fin_rt, fin_ite, W.cb_bl, if_true, if_false, Bool.false_eq_true, eq_int, ne_int, eq_bl, ne_bl, mx2, mn2, int0, notW, truW, fdiv_ok, mod_ok, mul_okl, add_int, neg_int, int_bl, int_int, listLF_fl, listF_fl, listF_tup, listLF_tup, Int.reduceLT, Int.reduceLE, Int.reduceNeg, decide_true, decide_false, nxS, nxA, nxE, R.nox_ok, R.nox_ite, SR.nox_nx, SR.nox_rt, SR.nox_ite, R.bind_ex, R.toS_ex, SR.go_ex, fin_ex, lc2, sumk])]
  by_cases k : M.panes.length = 1
  · have k1 : ((bs.length : Int) == 1) = true := by rw [bl, k]; rfl
    have k2 : (ar.sum == (Wn : Int) * (Hn : Int)) = true := by rw [one k]; simp
    simp only [bodyD, pad, sqS, ifS, orB, andB, notB, tb, bn, un, vr, kk, rtS, rnS, exS, orE, andE, chn, ifE, trB, passS, noS, setS, asgS, parS, axc, axn, flE, lsE, tupE, clE, mthE, mkE, lmE, forS, sqI, rg1, rg2, gSb, gFd, setFS, augFS, gNm, gTp, gsC, gsN, augS, augI, bkS, ctS, whS, slE, oxn, oxs, lpS, List.map_cons, List.map_nil, List.length_cons, List.length_nil, List.replicate, List.cons_append, List.nil_append, Nat.reduceAdd, Nat.reduceSub, List.getElem?_cons_succ, List.getElem?_cons_zero, List.set_cons_zero, List.set_cons_succ, R.toS_ok, R.bind_ok, R.toS_ite, R.bind_ite, SR.go_nx, SR.go_rt, SR.go_bk, SR.go_ct, SR.go_ite, SR.lp_nx, SR.lp_rt, SR.lp_bk, SR.lp_ct, SR.lp_ite, fin_nx, fin_rt, fin_ite, W.cb_bl, if_true, if_false, Bool.false_eq_true, eq_int, ne_int, eq_bl, ne_bl, mx2, mn2, int0, notW, truW, fdiv_ok, mod_ok, mul_okl, add_int, neg_int, int_bl, int_int, listLF_fl, listF_fl, listF_tup, listLF_tup, Int.reduceLT, Int.reduceLE, Int.reduceNeg, decide_true, decide_false, nxS, nxA, nxE, R.nox_ok, R.nox_ite, SR.nox_nx, SR.nox_rt, SR.nox_ite, R.bind_ex, R.toS_ex, SR.go_ex, fin_ex, lnb, k1, l0, l1, eW, eH, m1, m2, k2, Bool.not_true]
  · have k1 : ((bs.length : Int) == 1) = false := by
      have : ¬ (bs.length : Int) = 1 := by omega
      simpa using this
    simp only [bodyD, pad, sqS, ifS, orB, andB, notB, tb, bn, un, vr, kk, rtS, rnS, exS, orE, andE, chn, ifE, trB, passS, noS, setS, asgS, parS, axc, axn, flE, lsE, tupE, clE, mthE, mkE, lmE, forS, sqI, rg1, rg2, gSb, gFd, setFS, augFS, gNm, gTp, gsC, gsN, augS, augI, bkS, ctS, whS, slE, oxn, oxs, lpS, List.map_cons, List.map_nil, List.length_cons, List.length_nil, List.replicate, List.cons_append, List.nil_append, Nat.reduceAdd, Nat.reduceSub, List.getElem?_cons_succ, List.getElem?_cons_zero, List.set_cons_zero, List.set_cons_succ, R.toS_ok, R.bind_ok, R.toS_ite, R.bind_ite, SR.go_nx, SR.go_rt, SR.go_bk, SR.go_ct, SR.go_ite, SR.lp_nx, SR.lp_rt, SR.lp_bk, SR.lp_ct, SR.lp_ite, fin_nx, fin_rt, fin_ite, W.cb_bl, if_true, if_false, Bool.false_eq_true, eq_int, ne_int, eq_bl, ne_bl, mx2, mn2, int0, notW, truW, fdiv_ok, mod_ok, mul_okl, add_int, neg_int, int_bl, int_int, listLF_fl, listF_fl, listF_tup, listLF_tup, Int.reduceLT, Int.reduceLE, Int.reduceNeg, decide_true, decide_false, nxS, nxA, nxE, R.nox_ok, R.nox_ite, SR.nox_nx, SR.nox_rt, SR.nox_ite, R.bind_ex, R.toS_ex, SR.go_ex, fin_ex, lnb, k1]
theorem law_loop (X : W) : ∀ (cs : List Int) (N : Nat) (L : Lay) (w h new : Int) (o5 o6 o7 o8 o9 o10 o11 : Option W), Sound N L → N + cs.length ≤ 18 → (2 ≤ w ∧ w ≤ 40) → (1 ≤ h ∧ h ≤ 20) → (∀ p ∈ L.panes, 1 ≤ p ∧ p ≤ new) → new + cs.length ≤ 900 →
    ∃ M w1 h1 new1 p5 p6 p7 p8 p9 p10 p11, forL (gNm 5) b_law_0 (cs.map W.int) [some X, some (.int w), some (.int h), some (layW L), some (.int new), o5, o6, o7, o8, o9, o10, o11] [] = .nx [some X, some (.int w1), some (.int h1), some (layW M), some (.int new1), p5, p6, p7, p8, p9, p10, p11] [] ∧
      Sound 18 M ∧ w1 ≤ 40 ∧ h1 ≤ 20
  | [], N, L, w, h, new, o5, o6, o7, o8, o9, o10, o11, so, hN, hw, hh, hp, hn => ⟨L, w, h, new, o5, o6, o7, o8, o9, o10, o11, rfl, so.mono (by simpa using hN), hw.2, hh.2⟩
  | c :: cs, N, L, w, h, new, o5, o6, o7, o8, o9, o10, o11, so, hN, hw, hh, hp, hn => by
    rw [List.length_cons] at hN hn
    obtain ⟨M, w1, h1, q6, q7, q8, q9, q10, q11, e1, sm, b1, b2, pm⟩ := law_body (X := X) (c := c) so (by omega) hw hh hp (by omega) o6 o7 o8 o9 o10 o11
    obtain ⟨M2, w2, h2, new2, p5, p6, p7, p8, p9, p10, p11, e2, r⟩ := law_loop X cs (N + 1) M w1 h1 (new + 1) (some (.int c)) q6 q7 q8 q9 q10 q11 sm (by omega) b1 b2 pm (by omega)
    refine ⟨M2, w2, h2, new2, p5, p6, p7, p8, p9, p10, p11, ?_, r⟩
    rw [List.map_cons]
    unfold forL
    simp only [bodyD, pad, sqS, ifS, orB, andB, notB, tb, bn, un, vr, kk, rtS, rnS, exS, orE, andE, chn, ifE, trB, passS, noS, setS, asgS, parS, axc, axn, flE, lsE, tupE, clE, mthE, mkE, lmE, forS, sqI, rg1, rg2, gSb, gFd, setFS, augFS, gNm, gTp, gsC, gsN, augS, augI, bkS, ctS, whS, slE, oxn, oxs, lpS, List.map_cons, List.map_nil, List.length_cons, List.length_nil, List.replicate, List.cons_append, List.nil_append, Nat.reduceAdd, Nat.reduceSub, List.getElem?_cons_succ, List.getElem?_cons_zero, List.set_cons_zero, List.set_cons_succ, R.toS_ok, R.bind_ok, R.toS_ite, R.bind_ite, SR.go_nx, SR.go_rt, SR.go_bk, SR.go_ct, SR.go_ite, SR.lp_nx, SR.lp_rt, SR.lp_bk, SR.lp_ct, SR.lp_ite, fin_nx, fin_rt, fin_ite, W.cb_bl, if_true, if_false, Bool.false_eq_true, eq_int, ne_int, eq_bl, ne_bl, mx2, mn2, int0, notW, truW, fdiv_ok, mod_ok, mul_okl, add_int, neg_int, int_bl, int_int, listLF_fl, listF_fl, listF_tup, listLF_tup, Int.reduceLT, Int.reduceLE, Int.reduceNeg, decide_true, decide_false, nxS, nxA, nxE, R.nox_ok, R.nox_ite, SR.nox_nx, SR.nox_rt, SR.nox_ite, R.bind_ex, R.toS_ex, SR.go_ex, fin_ex]
    rw [e1]
    simp only [bodyD, pad, sqS, ifS, orB, andB, notB, tb, bn, un, vr, kk, rtS, rnS, exS, orE, andE, chn, ifE, trB, passS, noS, setS, asgS, parS, axc, axn, flE, lsE, tupE, clE, mthE, mkE, lmE, forS, sqI, rg1, rg2, gSb, gFd, setFS, augFS, gNm, gTp, gsC, gsN, augS, augI, bkS, ctS, whS, slE, oxn, oxs, lpS, List.map_cons, List.map_nil, List.length_cons, List.length_nil, List.replicate, List.cons_append, List.nil_append, Nat.reduceAdd, Nat.reduceSub, List.getElem?_cons_succ, List.getElem?_cons_zero, List.set_cons_zero, List.set_cons_succ, R.toS_ok, R.bind_ok, R.toS_ite, R.bind_ite, SR.go_nx, SR.go_rt, SR.go_bk, SR.go_ct, SR.go_ite, SR.lp_nx, SR.lp_rt, SR.lp_bk, SR.lp_ct, SR.lp_ite, fin_nx, fin_rt, fin_ite, W.cb_bl, if_true, if_false, Bool.false_eq_true, eq_int, ne_int, eq_bl, ne_bl, mx2, mn2, int0, notW, truW, fdiv_ok, mod_ok, mul_okl, add_int, neg_int, int_bl, int_int, listLF_fl, listF_fl, listF_tup, listLF_tup, Int.reduceLT, Int.reduceLE, Int.reduceNeg, decide_true, decide_false, nxS, nxA, nxE, R.nox_ok, R.nox_ite, SR.nox_nx, SR.nox_rt, SR.nox_ite, R.bind_ex, R.toS_ex, SR.go_ex, fin_ex]
    exact e2
theorem law_true : ∀ ns : List Int, ns.length ≤ 63 → ∃ st', r_law [.kl (ns.map W.int)] [] = .ok (.bl true) st' := by
  intro ns hl
  refine ⟨[], ?_⟩
  have hc0 := fun s => cell_den ns 0 s
  rw [show ((0 : Nat) : Int) = 0 from rfl] at hc0
  have k9 := slF_kl ns 1 16 []
  have cl := cut_len ns 1 16 (A := 1) (B := 16) rfl rfl
  generalize ns.getD 0 0 = c0 at hc0
  generalize cutL ns (some 1) (some 16) = cs at *
  generalize hX : W.kl (ns.map W.int) = X at *
  obtain ⟨M, w1, h1, new1, p5, p6, p7, p8, p9, p10, p11, e1, sm, b1, b2⟩ := law_loop X cs 1 (.pane 1) (2 + c0 % 39) (1 + c0 / 39 % 20) 1 none none none none none none none ⟨.pane 1, by rw [panes_pane]; simp, by rw [panes_pane]; simp⟩ (by omega) (by omega) (by omega) (fun p hp => by rw [panes_pane] at hp; have := List.mem_singleton.mp hp; omega) (by omega)
  rw [layW_pane] at e1
  have q1 := fitted_ok (w := w1) (h := h1) (st := []) (sm.good (n := 20) (by omega) (by omega)) (by omega)
  have sf := sm.fit (by omega) (w := w1) (k := h1) (by omega) (by omega)
  have q2 := fitted_ok (w := w1) (h := h1) (st := []) (sf.good (n := 20) (by omega) (by omega)) (by omega)
  rw [fit_idem (by omega) sm.ok (by have := sm.ln; omega)] at q2
  have gd : (M.fit w1 h1).dep ≤ 21 := by have := (sf.good (n := 20) (by omega) (by omega)).dp; omega
  have eq := eq_lay gd gd []
  rw [decide_eq_true rfl] at eq
  unfold r_law
  refine body_of (s := []) ?_
  show (sqS t_law_0 _) [some X, none, none, none, none, none, none, none, none, none, none, none] [] = _
  rw [sq_nx (e := [some X, some (.int (2 + c0 % 39)), none, none, none, none, none, none, none, none, none, none]) (s := []) (by unfold t_law_0; simp only [bodyD, pad, sqS, ifS, orB, andB, notB, tb, bn, un, vr, kk, rtS, rnS, exS, orE, andE, chn, ifE, trB, passS, noS, setS, asgS, parS, axc, axn, flE, lsE, tupE, clE, mthE, mkE, lmE, forS, sqI, rg1, rg2, gSb, gFd, setFS, augFS, gNm, gTp, gsC, gsN, augS, augI, bkS, ctS, whS, slE, oxn, oxs, lpS, List.map_cons, List.map_nil, List.length_cons, List.length_nil, List.replicate, List.cons_append, List.nil_append, Nat.reduceAdd, Nat.reduceSub, List.getElem?_cons_succ, List.getElem?_cons_zero, List.set_cons_zero, List.set_cons_succ, R.toS_ok, R.bind_ok, R.toS_ite, R.bind_ite, SR.go_nx, SR.go_rt, SR.go_bk, SR.go_ct, SR.go_ite, SR.lp_nx, SR.lp_rt, SR.lp_bk, SR.lp_ct, SR.lp_ite, fin_nx, fin_rt, fin_ite, W.cb_bl, if_true, if_false, Bool.false_eq_true, eq_int, ne_int, eq_bl, ne_bl, mx2, mn2, int0, notW, truW, fdiv_ok, mod_ok, mul_okl, add_int, neg_int, int_bl, int_int, listLF_fl, listF_fl, listF_tup, listLF_tup, Int.reduceLT, Int.reduceLE, Int.reduceNeg, decide_true, decide_false, nxS, nxA, nxE, R.nox_ok, R.nox_ite, SR.nox_nx, SR.nox_rt, SR.nox_ite, R.bind_ex, R.toS_ex, SR.go_ex, fin_ex, hc0])]
  rw [sq_nx (e := [some X, some (.int (2 + c0 % 39)), some (.int (1 + c0 / 39 % 20)), none, none, none, none, none, none, none, none, none]) (s := []) (by unfold t_law_1; simp only [bodyD, pad, sqS, ifS, orB, andB, notB, tb, bn, un, vr, kk, rtS, rnS, exS, orE, andE, chn, ifE, trB, passS, noS, setS, asgS, parS, axc, axn, flE, lsE, tupE, clE, mthE, mkE, lmE, forS, sqI, rg1, rg2, gSb, gFd, setFS, augFS, gNm, gTp, gsC, gsN, augS, augI, bkS, ctS, whS, slE, oxn, oxs, lpS, List.map_cons, List.map_nil, List.length_cons, List.length_nil, List.replicate, List.cons_append, List.nil_append, Nat.reduceAdd, Nat.reduceSub, List.getElem?_cons_succ, List.getElem?_cons_zero, List.set_cons_zero, List.set_cons_succ, R.toS_ok, R.bind_ok, R.toS_ite, R.bind_ite, SR.go_nx, SR.go_rt, SR.go_bk, SR.go_ct, SR.go_ite, SR.lp_nx, SR.lp_rt, SR.lp_bk, SR.lp_ct, SR.lp_ite, fin_nx, fin_rt, fin_ite, W.cb_bl, if_true, if_false, Bool.false_eq_true, eq_int, ne_int, eq_bl, ne_bl, mx2, mn2, int0, notW, truW, fdiv_ok, mod_ok, mul_okl, add_int, neg_int, int_bl, int_int, listLF_fl, listF_fl, listF_tup, listLF_tup, Int.reduceLT, Int.reduceLE, Int.reduceNeg, decide_true, decide_false, nxS, nxA, nxE, R.nox_ok, R.nox_ite, SR.nox_nx, SR.nox_rt, SR.nox_ite, R.bind_ex, R.toS_ex, SR.go_ex, fin_ex, hc0])]
  rw [sq_nx (e := [some X, some (.int (2 + c0 % 39)), some (.int (1 + c0 / 39 % 20)), some (.int 1), none, none, none, none, none, none, none, none]) (s := []) (by unfold t_law_2; simp only [bodyD, pad, sqS, ifS, orB, andB, notB, tb, bn, un, vr, kk, rtS, rnS, exS, orE, andE, chn, ifE, trB, passS, noS, setS, asgS, parS, axc, axn, flE, lsE, tupE, clE, mthE, mkE, lmE, forS, sqI, rg1, rg2, gSb, gFd, setFS, augFS, gNm, gTp, gsC, gsN, augS, augI, bkS, ctS, whS, slE, oxn, oxs, lpS, List.map_cons, List.map_nil, List.length_cons, List.length_nil, List.replicate, List.cons_append, List.nil_append, Nat.reduceAdd, Nat.reduceSub, List.getElem?_cons_succ, List.getElem?_cons_zero, List.set_cons_zero, List.set_cons_succ, R.toS_ok, R.bind_ok, R.toS_ite, R.bind_ite, SR.go_nx, SR.go_rt, SR.go_bk, SR.go_ct, SR.go_ite, SR.lp_nx, SR.lp_rt, SR.lp_bk, SR.lp_ct, SR.lp_ite, fin_nx, fin_rt, fin_ite, W.cb_bl, if_true, if_false, Bool.false_eq_true, eq_int, ne_int, eq_bl, ne_bl, mx2, mn2, int0, notW, truW, fdiv_ok, mod_ok, mul_okl, add_int, neg_int, int_bl, int_int, listLF_fl, listF_fl, listF_tup, listLF_tup, Int.reduceLT, Int.reduceLE, Int.reduceNeg, decide_true, decide_false, nxS, nxA, nxE, R.nox_ok, R.nox_ite, SR.nox_nx, SR.nox_rt, SR.nox_ite, R.bind_ex, R.toS_ex, SR.go_ex, fin_ex])]
  rw [sq_nx (e := [some X, some (.int (2 + c0 % 39)), some (.int (1 + c0 / 39 % 20)), some (.int 1), some (.int 1), none, none, none, none, none, none, none]) (s := []) (by unfold t_law_3; simp only [bodyD, pad, sqS, ifS, orB, andB, notB, tb, bn, un, vr, kk, rtS, rnS, exS, orE, andE, chn, ifE, trB, passS, noS, setS, asgS, parS, axc, axn, flE, lsE, tupE, clE, mthE, mkE, lmE, forS, sqI, rg1, rg2, gSb, gFd, setFS, augFS, gNm, gTp, gsC, gsN, augS, augI, bkS, ctS, whS, slE, oxn, oxs, lpS, List.map_cons, List.map_nil, List.length_cons, List.length_nil, List.replicate, List.cons_append, List.nil_append, Nat.reduceAdd, Nat.reduceSub, List.getElem?_cons_succ, List.getElem?_cons_zero, List.set_cons_zero, List.set_cons_succ, R.toS_ok, R.bind_ok, R.toS_ite, R.bind_ite, SR.go_nx, SR.go_rt, SR.go_bk, SR.go_ct, SR.go_ite, SR.lp_nx, SR.lp_rt, SR.lp_bk, SR.lp_ct, SR.lp_ite, fin_nx, fin_rt, fin_ite, W.cb_bl, if_true, if_false, Bool.false_eq_true, eq_int, ne_int, eq_bl, ne_bl, mx2, mn2, int0, notW, truW, fdiv_ok, mod_ok, mul_okl, add_int, neg_int, int_bl, int_int, listLF_fl, listF_fl, listF_tup, listLF_tup, Int.reduceLT, Int.reduceLE, Int.reduceNeg, decide_true, decide_false, nxS, nxA, nxE, R.nox_ok, R.nox_ite, SR.nox_nx, SR.nox_rt, SR.nox_ite, R.bind_ex, R.toS_ex, SR.go_ex, fin_ex])]
  rw [sq_nx (e := [some X, some (.int w1), some (.int h1), some (layW M), some (.int new1), p5, p6, p7, p8, p9, p10, p11]) (s := []) (by
    unfold t_law_4
    simp only [bodyD, pad, sqS, ifS, orB, andB, notB, tb, bn, un, vr, kk, rtS, rnS, exS, orE, andE, chn, ifE, trB, passS, noS, setS, asgS, parS, axc, axn, flE, lsE, tupE, clE, mthE, mkE, lmE, forS, sqI, rg1, rg2, gSb, gFd, setFS, augFS, gNm, gTp, gsC, gsN, augS, augI, bkS, ctS, whS, slE, oxn, oxs, lpS, List.map_cons, List.map_nil, List.length_cons, List.length_nil, List.replicate, List.cons_append, List.nil_append, Nat.reduceAdd, Nat.reduceSub, List.getElem?_cons_succ, List.getElem?_cons_zero, List.set_cons_zero, List.set_cons_succ, R.toS_ok, R.bind_ok, R.toS_ite, R.bind_ite, SR.go_nx, SR.go_rt, SR.go_bk, SR.go_ct, SR.go_ite, SR.lp_nx, SR.lp_rt, SR.lp_bk, SR.lp_ct, SR.lp_ite, fin_nx, fin_rt, fin_ite, W.cb_bl, if_true, if_false, Bool.false_eq_true, eq_int, ne_int, eq_bl, ne_bl, mx2, mn2, int0, notW, truW, fdiv_ok, mod_ok, mul_okl, add_int, neg_int, int_bl, int_int, listLF_fl, listF_fl, listF_tup, listLF_tup, Int.reduceLT, Int.reduceLE, Int.reduceNeg, decide_true, decide_false, nxS, nxA, nxE, R.nox_ok, R.nox_ite, SR.nox_nx, SR.nox_rt, SR.nox_ite, R.bind_ex, R.toS_ex, SR.go_ex, fin_ex, k9, intsW]
    exact e1)]
  unfold t_law_5
  simp only [bodyD, pad, sqS, ifS, orB, andB, notB, tb, bn, un, vr, kk, rtS, rnS, exS, orE, andE, chn, ifE, trB, passS, noS, setS, asgS, parS, axc, axn, flE, lsE, tupE, clE, mthE, mkE, lmE, forS, sqI, rg1, rg2, gSb, gFd, setFS, augFS, gNm, gTp, gsC, gsN, augS, augI, bkS, ctS, whS, slE, oxn, oxs, lpS, List.map_cons, List.map_nil, List.length_cons, List.length_nil, List.replicate, List.cons_append, List.nil_append, Nat.reduceAdd, Nat.reduceSub, List.getElem?_cons_succ, List.getElem?_cons_zero, List.set_cons_zero, List.set_cons_succ, R.toS_ok, R.bind_ok, R.toS_ite, R.bind_ite, SR.go_nx, SR.go_rt, SR.go_bk, SR.go_ct, SR.go_ite, SR.lp_nx, SR.lp_rt, SR.lp_bk, SR.lp_ct, SR.lp_ite, fin_nx, fin_rt, fin_ite, W.cb_bl, if_true, if_false, Bool.false_eq_true, eq_int, ne_int, eq_bl, ne_bl, mx2, mn2, int0, notW, truW, fdiv_ok, mod_ok, mul_okl, add_int, neg_int, int_bl, int_int, listLF_fl, listF_fl, listF_tup, listLF_tup, Int.reduceLT, Int.reduceLE, Int.reduceNeg, decide_true, decide_false, nxS, nxA, nxE, R.nox_ok, R.nox_ite, SR.nox_nx, SR.nox_rt, SR.nox_ite, R.bind_ex, R.toS_ex, SR.go_ex, fin_ex, q1, q2, eq]

end
end Kx

namespace Kx
open PySem L2 ML
def topS (i : Nat) : Stmt := PySem.Challenge.pw_manypanes_k25_whole_layouts_tile_the_are.main.body.getD i (.Pass ⟨0, 0, 0, 0⟩)
abbrev s__law_borders_right : Stmt := topS 30
abbrev s__law_cell : Stmt := topS 25
abbrev s__law_sheet : Stmt := topS 29
abbrev s_axis_of : Stmt := topS 8
abbrev s_least : Stmt := topS 9
abbrev s_share : Stmt := topS 10
abbrev s_fitted : Stmt := topS 11
abbrev s_placed : Stmt := topS 12
abbrev s_placed_whole : Stmt := topS 13
abbrev s_boxes : Stmt := topS 14
abbrev s_size_of : Stmt := topS 15
abbrev s_panes : Stmt := topS 7
abbrev s_with_new : Stmt := topS 16
abbrev s_divided : Stmt := topS 17
abbrev s_shifted : Stmt := topS 21
abbrev s_with_border : Stmt := topS 22
abbrev s_moved : Stmt := topS 23
abbrev s_dropped : Stmt := topS 18
abbrev s_taken_out : Stmt := topS 19
abbrev s_without : Stmt := topS 20
abbrev s__law_step : Stmt := topS 28
abbrev s_law : Stmt := topS 31
structure Ad where
  a__law_borders_right : Addr
  fd__law_borders_right : FuncData
  a__law_cell : Addr
  fd__law_cell : FuncData
  a__law_sheet : Addr
  fd__law_sheet : FuncData
  a_axis_of : Addr
  fd_axis_of : FuncData
  a_least : Addr
  fd_least : FuncData
  a_share : Addr
  fd_share : FuncData
  a_fitted : Addr
  fd_fitted : FuncData
  a_placed : Addr
  fd_placed : FuncData
  a_placed_whole : Addr
  fd_placed_whole : FuncData
  a_boxes : Addr
  fd_boxes : FuncData
  a_size_of : Addr
  fd_size_of : FuncData
  a_panes : Addr
  fd_panes : FuncData
  a_with_new : Addr
  fd_with_new : FuncData
  a_divided : Addr
  fd_divided : FuncData
  a_shifted : Addr
  fd_shifted : FuncData
  a_with_border : Addr
  fd_with_border : FuncData
  a_moved : Addr
  fd_moved : FuncData
  a_dropped : Addr
  fd_dropped : FuncData
  a_taken_out : Addr
  fd_taken_out : FuncData
  a_without : Addr
  fd_without : FuncData
  a__law_step : Addr
  fd__law_step : FuncData
  a_law : Addr
  fd_law : FuncData
  k_LEAST_PANE : Addr
  k_LEAST_SPLIT : Addr
  x_NoRoom : Addr
def cx (K : PySem.W.Frag) (A : Ad) : MC := ⟨K, [], [A.x_NoRoom]⟩
theorem hu1 {k : Nat} {A : Around} (hr : Room k A) : A.units + 1 < cLine := by have := hr.un; omega
theorem hu65 {k : Nat} {A : Around} (hr : Room k A) : A.units + 65 < cLine := by have := hr.un; omega
structure Txt (K : PySem.W.Frag) (mg : Str → Option Value) (A : Ad) (w : World) : Prop where
  F__law_borders_right : Fun K "_law_borders_right" "_law_borders_right" s__law_borders_right A.a__law_borders_right A.fd__law_borders_right
  b__law_borders_right : Binds K A.fd__law_borders_right ["_law_sheet_here", "_law_w", "_law_h"] []
  g__law_borders_right : mg "_law_borders_right" = some (.ref A.a__law_borders_right)
  F__law_cell : Fun K "_law_cell" "_law_cell" s__law_cell A.a__law_cell A.fd__law_cell
  b__law_cell : Binds K A.fd__law_cell ["_law_script", "_law_k"] []
  g__law_cell : mg "_law_cell" = some (.ref A.a__law_cell)
  F__law_sheet : Fun K "_law_sheet" "_law_sheet" s__law_sheet A.a__law_sheet A.fd__law_sheet
  b__law_sheet : Binds K A.fd__law_sheet ["_law_told", "_law_w", "_law_h"] []
  g__law_sheet : mg "_law_sheet" = some (.ref A.a__law_sheet)
  F_axis_of : Fun K "axis_of" "axis_of" s_axis_of A.a_axis_of A.fd_axis_of
  b_axis_of : Binds K A.fd_axis_of ["direction"] []
  g_axis_of : mg "axis_of" = some (.ref A.a_axis_of)
  F_least : Fun K "least" "least" s_least A.a_least A.fd_least
  b_least : Binds K A.fd_least ["layout"] []
  g_least : mg "least" = some (.ref A.a_least)
  F_share : Fun K "share" "share" s_share A.a_share A.fd_share
  b_share : Binds K A.fd_share ["total", "smallest", "sizes"] []
  g_share : mg "share" = some (.ref A.a_share)
  F_fitted : Fun K "fitted" "fitted" s_fitted A.a_fitted A.fd_fitted
  b_fitted : Binds K A.fd_fitted ["layout", "width", "height"] []
  g_fitted : mg "fitted" = some (.ref A.a_fitted)
  F_placed : Fun K "placed" "placed" s_placed A.a_placed A.fd_placed
  b_placed : Binds K A.fd_placed ["layout", "row", "column", "width", "height"] []
  g_placed : mg "placed" = some (.ref A.a_placed)
  F_placed_whole : Fun K "placed_whole" "placed_whole" s_placed_whole A.a_placed_whole A.fd_placed_whole
  b_placed_whole : Binds K A.fd_placed_whole ["layout", "width", "height"] []
  g_placed_whole : mg "placed_whole" = some (.ref A.a_placed_whole)
  F_boxes : Fun K "boxes" "boxes" s_boxes A.a_boxes A.fd_boxes
  b_boxes : Binds K A.fd_boxes ["layout", "width", "height"] []
  g_boxes : mg "boxes" = some (.ref A.a_boxes)
  F_size_of : Fun K "size_of" "size_of" s_size_of A.a_size_of A.fd_size_of
  b_size_of : Binds K A.fd_size_of ["layout", "width", "height", "pane", "axis"] []
  g_size_of : mg "size_of" = some (.ref A.a_size_of)
  F_panes : Fun K "panes" "panes" s_panes A.a_panes A.fd_panes
  b_panes : Binds K A.fd_panes ["layout"] []
  g_panes : mg "panes" = some (.ref A.a_panes)
  F_with_new : Fun K "with_new" "with_new" s_with_new A.a_with_new A.fd_with_new
  b_with_new : Binds K A.fd_with_new ["layout", "pane", "direction", "new", "size"] []
  g_with_new : mg "with_new" = some (.ref A.a_with_new)
  F_divided : Fun K "divided" "divided" s_divided A.a_divided A.fd_divided
  b_divided : Binds K A.fd_divided ["layout", "width", "height", "pane", "direction", "new"] []
  g_divided : mg "divided" = some (.ref A.a_divided)
  F_shifted : Fun K "shifted" "shifted" s_shifted A.a_shifted A.fd_shifted
  b_shifted : Binds K A.fd_shifted ["parts", "index", "axis", "amount"] []
  g_shifted : mg "shifted" = some (.ref A.a_shifted)
  F_with_border : Fun K "with_border" "with_border" s_with_border A.a_with_border A.fd_with_border
  b_with_border : Binds K A.fd_with_border ["layout", "pane", "direction", "amount"] []
  g_with_border : mg "with_border" = some (.ref A.a_with_border)
  F_moved : Fun K "moved" "moved" s_moved A.a_moved A.fd_moved
  b_moved : Binds K A.fd_moved ["layout", "width", "height", "pane", "direction", "amount"] []
  g_moved : mg "moved" = some (.ref A.a_moved)
  F_dropped : Fun K "dropped" "dropped" s_dropped A.a_dropped A.fd_dropped
  b_dropped : Binds K A.fd_dropped ["parts", "index"] []
  g_dropped : mg "dropped" = some (.ref A.a_dropped)
  F_taken_out : Fun K "taken_out" "taken_out" s_taken_out A.a_taken_out A.fd_taken_out
  b_taken_out : Binds K A.fd_taken_out ["layout", "pane"] []
  g_taken_out : mg "taken_out" = some (.ref A.a_taken_out)
  F_without : Fun K "without" "without" s_without A.a_without A.fd_without
  b_without : Binds K A.fd_without ["layout", "width", "height", "pane"] []
  g_without : mg "without" = some (.ref A.a_without)
  F__law_step : Fun K "_law_step" "_law_step" s__law_step A.a__law_step A.fd__law_step
  b__law_step : Binds K A.fd__law_step ["_law_layout", "_law_w", "_law_h", "_law_cell_here", "_law_new"] []
  g__law_step : mg "_law_step" = some (.ref A.a__law_step)
  F_law : Fun K "law" "law" s_law A.a_law A.fd_law
  b_law : Binds K A.fd_law ["_law_script"] []
  g_law : mg "law" = some (.ref A.a_law)
  n_enumerate : mg "enumerate" = none
  n_int : mg "int" = none
  n_isinstance : mg "isinstance" = none
  n_len : mg "len" = none
  n_max : mg "max" = none
  n_min : mg "min" = none
  n_range : mg "range" = none
  n_sorted : mg "sorted" = none
  n_sum : mg "sum" = none
  n_tuple : mg "tuple" = none
  n_zip : mg "zip" = none
  gs_BESIDE : ∃ t, mg "BESIDE" = some (.str "beside" t)
  gt_LEAST_PANE : mg "LEAST_PANE" = some (.ref A.k_LEAST_PANE)
  gk_LEAST_PANE : GC K (.ref A.k_LEAST_PANE) w_LEAST_PANE
  gd_LEAST_SPLIT : mg "LEAST_SPLIT" = some (.ref A.k_LEAST_SPLIT)
  kt_LEAST_SPLIT : KTabS K w A.k_LEAST_SPLIT t_LEAST_SPLIT
  xc : ∀ (cc : Nat) (Ac : Addr), (cx K A).exn[cc]? = some Ac → ExcC K Ac
  xg_NoRoom : mg "NoRoom" = some (.ref A.x_NoRoom)
  xi_NoRoom : PySem.W.isClsIn K A.x_NoRoom = true
  xt_NoRoom : PySem.W.typeIn K (.ref A.x_NoRoom) = some (.type "type")
  xb_NoRoom : PySem.W.subIn K (.ref A.x_NoRoom) (.type "BaseException") = some true
  xf_NoRoom : PySem.W.subIn K (.ref A.x_NoRoom) (.ref A.x_NoRoom) = some true
  xs_NoRoom : ∀ (cc : Nat) (Ac : Addr), (cx K A).exn[cc]? = some Ac → PySem.W.subIn K (.ref Ac) (.ref A.x_NoRoom) = some (isx_NoRoom cc)
  xe_NoRoom : PySem.W.excIn K A.x_NoRoom [.type "ValueError", .type "Exception", .type "BaseException", .type "object"] "ValueError.__new__" = true
  xk_NoRoom : PySem.W.keepIn K (.ref A.x_NoRoom) = true
section
variable {P : Program} {w : World} {K : PySem.W.Frag} {mg : Str → Option Value} {base : Heap} {A : Ad}
theorem sc__law_borders_right : FnScope ["_law_sheet_here", "_law_w", "_law_h", "_law_r", "_law_c", "_law_here", "_law_upright", "_law_level", "_law_near"] ["_law_sheet_here", "_law_w", "_law_h"] (defScope s__law_borders_right) := ⟨rfl, rfl, rfl, by decide +kernel, rfl, by decide +kernel, by decide +kernel⟩
theorem sc__law_cell : FnScope ["_law_script", "_law_k"] ["_law_script", "_law_k"] (defScope s__law_cell) := ⟨rfl, rfl, rfl, by decide +kernel, rfl, by decide +kernel, by decide +kernel⟩
theorem sc__law_sheet : FnScope ["_law_told", "_law_w", "_law_h", "_law_sheet_here", "_law_pane", "_law_r", "_law_c", "_law_wide", "_law_high", "_law_i", "_law_j"] ["_law_told", "_law_w", "_law_h"] (defScope s__law_sheet) := ⟨rfl, rfl, rfl, by decide +kernel, rfl, by decide +kernel, by decide +kernel⟩
theorem sc_axis_of : FnScope ["direction"] ["direction"] (defScope s_axis_of) := ⟨rfl, rfl, rfl, by decide +kernel, rfl, by decide +kernel, by decide +kernel⟩
theorem sc_least : FnScope ["layout", "sizes", "widths", "heights", "borders", "inner", "_", "size"] ["layout"] (defScope s_least) := ⟨rfl, rfl, rfl, by decide +kernel, rfl, by decide +kernel, by decide +kernel⟩
theorem sc_share : FnScope ["total", "smallest", "sizes", "spare", "extras", "weight", "result", "rest", "index", "extra", "size", "low"] ["total", "smallest", "sizes"] (defScope s_share) := ⟨rfl, rfl, rfl, by decide +kernel, rfl, by decide +kernel, by decide +kernel⟩
theorem sc_fitted : FnScope ["layout", "width", "height", "low", "direction", "parts", "axis", "smallest", "sizes", "news", "inner", "_", "size"] ["layout", "width", "height"] (defScope s_fitted) := ⟨rfl, rfl, rfl, by decide +kernel, rfl, by decide +kernel, by decide +kernel⟩
theorem sc_placed : FnScope ["layout", "row", "column", "width", "height", "found", "borders", "direction", "parts", "index", "inner", "size", "more"] ["layout", "row", "column", "width", "height"] (defScope s_placed) := ⟨rfl, rfl, rfl, by decide +kernel, rfl, by decide +kernel, by decide +kernel⟩
theorem sc_placed_whole : FnScope ["layout", "width", "height", "low"] ["layout", "width", "height"] (defScope s_placed_whole) := ⟨rfl, rfl, rfl, by decide +kernel, rfl, by decide +kernel, by decide +kernel⟩
theorem sc_boxes : FnScope ["layout", "width", "height"] ["layout", "width", "height"] (defScope s_boxes) := ⟨rfl, rfl, rfl, by decide +kernel, rfl, by decide +kernel, by decide +kernel⟩
theorem sc_size_of : FnScope ["layout", "width", "height", "pane", "axis", "box"] ["layout", "width", "height", "pane", "axis"] (defScope s_size_of) := ⟨rfl, rfl, rfl, by decide +kernel, rfl, by decide +kernel, by decide +kernel⟩
theorem sc_panes : FnScope ["layout", "result", "inner", "_"] ["layout"] (defScope s_panes) := ⟨rfl, rfl, rfl, by decide +kernel, rfl, by decide +kernel, by decide +kernel⟩
theorem sc_with_new : FnScope ["layout", "pane", "direction", "new", "size", "half", "pair", "news", "inner", "length"] ["layout", "pane", "direction", "new", "size"] (defScope s_with_new) := ⟨rfl, rfl, rfl, by decide +kernel, rfl, by decide +kernel, by decide +kernel⟩
theorem sc_divided : FnScope ["layout", "width", "height", "pane", "direction", "new", "size"] ["layout", "width", "height", "pane", "direction", "new"] (defScope s_divided) := ⟨rfl, rfl, rfl, by decide +kernel, rfl, by decide +kernel, by decide +kernel⟩
theorem sc_shifted : FnScope ["parts", "index", "axis", "amount", "one", "first", "two", "second"] ["parts", "index", "axis", "amount"] (defScope s_shifted) := ⟨rfl, rfl, rfl, by decide +kernel, rfl, by decide +kernel, by decide +kernel⟩
theorem sc_with_border : FnScope ["layout", "pane", "direction", "amount", "parts", "index", "inner", "size", "changed"] ["layout", "pane", "direction", "amount"] (defScope s_with_border) := ⟨rfl, rfl, rfl, by decide +kernel, rfl, by decide +kernel, by decide +kernel⟩
theorem sc_moved : FnScope ["layout", "width", "height", "pane", "direction", "amount", "changed"] ["layout", "width", "height", "pane", "direction", "amount"] (defScope s_moved) := ⟨rfl, rfl, rfl, by decide +kernel, rfl, by decide +kernel, by decide +kernel⟩
theorem sc_dropped : FnScope ["parts", "index", "room", "heir", "news", "at", "inner", "size"] ["parts", "index"] (defScope s_dropped) := ⟨rfl, rfl, rfl, by decide +kernel, rfl, by decide +kernel, by decide +kernel⟩
theorem sc_taken_out : FnScope ["layout", "pane", "direction", "parts", "index", "inner", "size", "news", "rest"] ["layout", "pane"] (defScope s_taken_out) := ⟨rfl, rfl, rfl, by decide +kernel, rfl, by decide +kernel, by decide +kernel⟩
theorem sc_without : FnScope ["layout", "width", "height", "pane"] ["layout", "width", "height", "pane"] (defScope s_without) := ⟨rfl, rfl, rfl, by decide +kernel, rfl, by decide +kernel, by decide +kernel⟩
theorem sc__law_step : FnScope ["_law_layout", "_law_w", "_law_h", "_law_cell_here", "_law_new", "_law_known", "_law_pane", "_law_way", "_law_kind", "_law_one"] ["_law_layout", "_law_w", "_law_h", "_law_cell_here", "_law_new"] (defScope s__law_step) := ⟨rfl, rfl, rfl, by decide +kernel, rfl, by decide +kernel, by decide +kernel⟩
theorem sc_law : FnScope ["_law_script", "_law_w", "_law_h", "_law_layout", "_law_new", "_law_cell_here", "_law_known", "_law_told", "_law_low", "_law_sheet_here", "_law_covered", "_law_box"] ["_law_script"] (defScope s_law) := ⟨rfl, rfl, rfl, by decide +kernel, rfl, by decide +kernel, by decide +kernel⟩
theorem raw__law_borders_right (T : Txt K mg A w) : FnOk P w K mg base CX0 1 A.a__law_borders_right A.fd__law_borders_right ["_law_sheet_here", "_law_w", "_law_h"] (sp0 (cx K A) 3 r__law_borders_right) :=
  fn_ok (N := ["_law_sheet_here", "_law_w", "_law_h", "_law_r", "_law_c", "_law_here", "_law_upright", "_law_level", "_law_near"]) T.F__law_borders_right sc__law_borders_right rfl rfl fun cdv A1 outer sh H E hr => (mss_cons (ms_for PassesOwn.never rfl (mi_range1 rfl T.n_range (ma_cons (me_var (pv 2)) ma_nil)) (mg_name (i := 3) sc__law_borders_right.nd rfl (Or.inl rfl)) (mss_one (ms_for PassesOwn.never rfl (mi_range1 rfl T.n_range (ma_cons (me_var (pv 1)) ma_nil)) (mg_name (i := 4) sc__law_borders_right.nd rfl (Or.inl rfl)) (mss_cons (ms_set (i := 5) sc__law_borders_right.nd rfl (Or.inl rfl) (me_ix rfl (me_ix rfl (me_var (pv 0)) (me_var (pv 3))) (me_var (pv 4)))) (mss_cons (ms_if (mt_w (mw_and (mt_cmp (op_neD hr.units) om_ne (me_var (pv 5)) me_int (nomark _)) (mw_and (mt_cmp op_lt om_lt (me_op or_add om_add (me_var (pv 4)) me_int) (me_var (pv 1)) (nomark _)) (mw_and1 (mt_cmp op_notIn_seq om_nin (me_ix rfl (me_ix rfl (me_var (pv 0)) (me_var (pv 3))) (me_op or_add om_add (me_var (pv 4)) me_int)) (me_fl (ma_cons me_int (ma_cons (me_var (pv 5)) ma_nil))) (by rfl)))))) (mss_one (ms_ret me_bl)) mss_nil) (mss_cons (ms_if (mt_w (mw_and (mt_cmp (op_neD hr.units) om_ne (me_var (pv 5)) me_int (nomark _)) (mw_and (mt_cmp op_lt om_lt (me_op or_add om_add (me_var (pv 3)) me_int) (me_var (pv 2)) (nomark _)) (mw_and1 (mt_cmp op_notIn_seq om_nin (me_ix rfl (me_ix rfl (me_var (pv 0)) (me_op or_add om_add (me_var (pv 3)) me_int)) (me_var (pv 4))) (me_fl (ma_cons me_int (ma_cons (me_var (pv 5)) ma_nil))) (by rfl)))))) (mss_one (ms_ret me_bl)) mss_nil) (mss_cons (ms_set (i := 6) sc__law_borders_right.nd rfl (Or.inl rfl) (me_and (me_chain op_lt op_lt om_lt om_lt me_int (me_var (pv 4)) (me_op op_sub om_sub (me_var (pv 1)) me_int)) (me_and (me_cmp (op_neD hr.units) om_ne (me_ix rfl (me_ix rfl (me_var (pv 0)) (me_var (pv 3))) (me_op op_sub om_sub (me_var (pv 4)) me_int)) me_int (nomark _)) (me_one (me_cmp (op_neD hr.units) om_ne (me_ix rfl (me_ix rfl (me_var (pv 0)) (me_var (pv 3))) (me_op or_add om_add (me_var (pv 4)) me_int)) me_int (nomark _)))))) (mss_cons (ms_set (i := 7) sc__law_borders_right.nd rfl (Or.inl rfl) (me_and (me_chain op_lt op_lt om_lt om_lt me_int (me_var (pv 3)) (me_op op_sub om_sub (me_var (pv 2)) me_int)) (me_and (me_cmp (op_neD hr.units) om_ne (me_ix rfl (me_ix rfl (me_var (pv 0)) (me_op op_sub om_sub (me_var (pv 3)) me_int)) (me_var (pv 4))) me_int (nomark _)) (me_one (me_cmp (op_neD hr.units) om_ne (me_ix rfl (me_ix rfl (me_var (pv 0)) (me_op or_add om_add (me_var (pv 3)) me_int)) (me_var (pv 4))) me_int (nomark _)))))) (mss_cons (ms_set (i := 8) sc__law_borders_right.nd rfl (Or.inl rfl) (me_or (me_and (me_cmp op_lt om_lt me_int (me_var (pv 4)) (nomark _)) (me_one (me_cmp (op_eqD hr.units) om_eq (me_ix rfl (me_ix rfl (me_var (pv 0)) (me_var (pv 3))) (me_op op_sub om_sub (me_var (pv 4)) me_int)) me_int (nomark _)))) (me_one (me_and (me_cmp op_lt om_lt (me_op or_add om_add (me_var (pv 4)) me_int) (me_var (pv 1)) (nomark _)) (me_one (me_cmp (op_eqD hr.units) om_eq (me_ix rfl (me_ix rfl (me_var (pv 0)) (me_var (pv 3))) (me_op or_add om_add (me_var (pv 4)) me_int)) me_int (nomark _))))))) (mss_cons (ms_set (i := 8) sc__law_borders_right.nd rfl (Or.inl rfl) (me_or (me_var (pv 8)) (me_or (me_and (me_cmp op_lt om_lt me_int (me_var (pv 3)) (nomark _)) (me_one (me_cmp (op_eqD hr.units) om_eq (me_ix rfl (me_ix rfl (me_var (pv 0)) (me_op op_sub om_sub (me_var (pv 3)) me_int)) (me_var (pv 4))) me_int (nomark _)))) (me_one (me_and (me_cmp op_lt om_lt (me_op or_add om_add (me_var (pv 3)) me_int) (me_var (pv 2)) (nomark _)) (me_one (me_cmp (op_eqD hr.units) om_eq (me_ix rfl (me_ix rfl (me_var (pv 0)) (me_op or_add om_add (me_var (pv 3)) me_int)) (me_var (pv 4))) me_int (nomark _)))))))) (mss_cons (ms_if (mt_w (mw_and (mt_cmp (op_eqD hr.units) om_eq (me_var (pv 5)) me_int (nomark _)) (mw_and (mt_not (mt_truth rfl (me_var (pv 6)))) (mw_and (mt_not (mt_truth rfl (me_var (pv 7)))) (mw_and1 (mt_not (mt_truth rfl (me_var (pv 8))))))))) (mss_one (ms_ret me_bl)) mss_nil) (mss_cons (ms_if (mt_w (mw_and (mt_cmp (op_eqD hr.units) om_eq (me_var (pv 5)) me_int (nomark _)) (mw_and1 (mt_w (mw_or (mt_w (mw_and (mt_cmp op_in_seq om_in (me_var (pv 3)) (me_fl (ma_cons me_int (ma_cons (me_op op_sub om_sub (me_var (pv 2)) me_int) ma_nil))) (by rfl)) (mw_and1 (mt_not (mt_truth rfl (me_var (pv 6))))))) (mw_or1 (mt_w (mw_and (mt_cmp op_in_seq om_in (me_var (pv 4)) (me_fl (ma_cons me_int (ma_cons (me_op op_sub om_sub (me_var (pv 1)) me_int) ma_nil))) (by rfl)) (mw_and1 (mt_not (mt_truth rfl (me_var (pv 7))))))))))))) (mss_one (ms_ret me_bl)) mss_nil) (mss_one (ms_if (mt_w (mw_and (mt_cmp (op_eqD hr.units) om_eq (me_var (pv 5)) me_int (nomark _)) (mw_and (mt_cmp op_lt om_lt (me_op or_add om_add (me_var (pv 3)) me_int) (me_var (pv 2)) (nomark _)) (mw_and (mt_cmp op_lt om_lt (me_op or_add om_add (me_var (pv 4)) me_int) (me_var (pv 1)) (nomark _)) (mw_and1 (mt_chain3 (op_eqD hr.units) (op_eqD hr.units) (op_eqD hr.units) om_eq om_eq om_eq (me_ix rfl (me_ix rfl (me_var (pv 0)) (me_op or_add om_add (me_var (pv 3)) me_int)) (me_var (pv 4))) (me_ix rfl (me_ix rfl (me_var (pv 0)) (me_var (pv 3))) (me_op or_add om_add (me_var (pv 4)) me_int)) (me_ix rfl (me_ix rfl (me_var (pv 0)) (me_op or_add om_add (me_var (pv 3)) me_int)) (me_op or_add om_add (me_var (pv 4)) me_int)) me_int)))))) (mss_one (ms_ret me_bl)) mss_nil)))))))))))))) (mss_one (ms_ret me_bl)))
theorem ok__law_borders_right (T : Txt K mg A w) : FnOk P w K mg base CX0 1 A.a__law_borders_right A.fd__law_borders_right ["_law_sheet_here", "_law_w", "_law_h"] (sp0 (cx K A) 3 d__law_borders_right) := raw__law_borders_right T
theorem raw__law_cell (T : Txt K mg A w) : FnOk P w K mg base CX0 1 A.a__law_cell A.fd__law_cell ["_law_script", "_law_k"] (sp0 (cx K A) 2 r__law_cell) :=
  fn_ok (N := ["_law_script", "_law_k"]) T.F__law_cell sc__law_cell rfl rfl fun cdv A1 outer sh H E hr => (mss_cons (ms_if (mt_cmp op_lt om_lt (me_var (pv 1)) (me_callB call_len_seq cm_len rfl T.n_len (by decide +kernel) (ma_cons (me_var (pv 0)) ma_nil)) (nomark _)) (mss_one (ms_ret (me_callTy call_int1 cm_int rfl T.n_int (by decide +kernel) (ma_cons (me_ix rfl (me_var (pv 0)) (me_var (pv 1))) ma_nil)))) mss_nil) (mss_one (ms_ret me_int)))
theorem ok__law_cell (T : Txt K mg A w) : FnOk P w K mg base CX0 1 A.a__law_cell A.fd__law_cell ["_law_script", "_law_k"] (sp0 (cx K A) 2 d__law_cell) := raw__law_cell T
theorem raw__law_sheet (T : Txt K mg A w) : FnOk P w K mg base CX0 1 A.a__law_sheet A.fd__law_sheet ["_law_told", "_law_w", "_law_h"] (sp0 (cx K A) 3 r__law_sheet) :=
  fn_ok (N := ["_law_told", "_law_w", "_law_h", "_law_sheet_here", "_law_pane", "_law_r", "_law_c", "_law_wide", "_law_high", "_law_i", "_law_j"]) T.F__law_sheet sc__law_sheet rfl rfl fun cdv A1 outer sh H E hr => (mss_cons (ms_setLc (i := 3) (ownP := [("_law_r", 5)]) (ct_name (i := 5) (by decide)) rfl sc__law_sheet.nd rfl rfl (sw_true rfl rfl rfl (by decide +kernel)) (mi_range1 rfl T.n_range (ma_cons (me_var (pv 2)) ma_nil)) (blkOk_by (own := [("_law_r", 5)]) (N := ["_law_told", "_law_w", "_law_h", "_law_sheet_here", "_law_pane", "_law_r", "_law_c", "_law_wide", "_law_high", "_law_i", "_law_j"]) (sc := defScope s__law_sheet) (by decide +kernel)) (fun _ _ _ _ _ => pg_name (i := 5) sc__law_sheet.nd rfl (Or.inl rfl)) (fun _ _ _ _ _ => mts_nil) (fun _ _ _ _ _ => (me_op or_mul om_mulL (me_fl (ma_cons me_int ma_nil)) (me_var (pv 1))))) (mss_cons (ms_for PassesOwn.never rfl (mi_seq rfl (me_var (pv 0))) (mg_tup rfl rfl (mgs_cons (mg_name (i := 4) sc__law_sheet.nd rfl (Or.inl rfl)) (mgs_cons (mg_name (i := 5) sc__law_sheet.nd rfl (Or.inl rfl)) (mgs_cons (mg_name (i := 6) sc__law_sheet.nd rfl (Or.inl rfl)) (mgs_cons (mg_name (i := 7) sc__law_sheet.nd rfl (Or.inl rfl)) (mgs_cons (mg_name (i := 8) sc__law_sheet.nd rfl (Or.inl rfl)) mgs_nil)))))) (mss_cons (ms_if (mt_w (mw_or (mt_cmp op_lt om_lt (me_var (pv 7)) me_int (nomark _)) (mw_or (mt_cmp op_lt om_lt (me_var (pv 8)) me_int (nomark _)) (mw_or (mt_cmp op_lt om_lt (me_var (pv 5)) me_int (nomark _)) (mw_or (mt_cmp op_lt om_lt (me_var (pv 6)) me_int (nomark _)) (mw_or (mt_cmp op_gt om_gt (me_op or_add om_add (me_var (pv 5)) (me_var (pv 8))) (me_var (pv 2)) (nomark _)) (mw_or1 (mt_cmp op_gt om_gt (me_op or_add om_add (me_var (pv 6)) (me_var (pv 7))) (me_var (pv 1)) (nomark _))))))))) (mss_one (ms_ret me_non)) mss_nil) (mss_one (ms_for PassesOwn.never rfl (mi_range2 rfl T.n_range (ma_cons (me_var (pv 5)) (ma_cons (me_op or_add om_add (me_var (pv 5)) (me_var (pv 8))) ma_nil))) (mg_name (i := 9) sc__law_sheet.nd rfl (Or.inl rfl)) (mss_one (ms_for PassesOwn.never rfl (mi_range2 rfl T.n_range (ma_cons (me_var (pv 6)) (ma_cons (me_op or_add om_add (me_var (pv 6)) (me_var (pv 7))) ma_nil))) (mg_name (i := 10) sc__law_sheet.nd rfl (Or.inl rfl)) (mss_cons (ms_if (mt_cmp (op_neD hr.units) om_ne (me_ix rfl (me_ix rfl (me_var (pv 3)) (me_var (pv 9))) (me_var (pv 10))) me_int (nomark _)) (mss_one (ms_ret me_non)) mss_nil) (mss_one (ms_asg (me_var (pv 4)) (mg_sub (me_ix rfl (me_var (pv 3)) (me_var (pv 9))) (me_var (pv 10)))))))))))) (mss_one (ms_ret (me_var (pv 3))))))
theorem ok__law_sheet (T : Txt K mg A w) : FnOk P w K mg base CX0 1 A.a__law_sheet A.fd__law_sheet ["_law_told", "_law_w", "_law_h"] (sp0 (cx K A) 3 d__law_sheet) := fn_gz (raw__law_sheet T) gz__law_sheet
theorem raw_axis_of (T : Txt K mg A w) : FnOk P w K mg base CX0 1 A.a_axis_of A.fd_axis_of ["direction"] (sp0 (cx K A) 1 r_axis_of) :=
  fn_ok (N := ["direction"]) T.F_axis_of sc_axis_of rfl rfl fun cdv A1 outer sh H E hr => (mss_one (ms_ret (me_if (mt_cmp (op_eqD hr.units) om_eq (me_var (pv 0)) (me_gstr rfl T.gs_BESIDE) (nomark _)) me_int me_int)))
theorem ok_axis_of (T : Txt K mg A w) : FnOk P w K mg base CX0 1 A.a_axis_of A.fd_axis_of ["direction"] (sp0 (cx K A) 1 d_axis_of) := raw_axis_of T
theorem raw_least (T : Txt K mg A w) : ∀ n : Nat, FnOk P w K mg base CX0 (1 + n) A.a_least A.fd_least ["layout"] (sp0 (cx K A) 1 (r_least n))
  | 0 => fn_ok (N := ["layout", "sizes", "widths", "heights", "borders", "inner", "_", "size"]) T.F_least sc_least rfl rfl fun cdv A1 outer sh H E hr => mss_never
  | n + 1 => fn_ok (N := ["layout", "sizes", "widths", "heights", "borders", "inner", "_", "size"]) T.F_least sc_least rfl rfl fun cdv A1 outer sh H E hr => (mss_cons (ms_if (mt_truth rfl (me_isi (T := .int) (by intro z; cases z) rfl (me_var (pv 0)) (pe_bltn rfl T.n_int (by decide +kernel) rfl) rfl T.n_isinstance)) (mss_one (ms_ret (me_gref rfl T.gt_LEAST_PANE T.gk_LEAST_PANE))) mss_nil) (mss_cons (ms_setLc (i := 1) (ownP := [("inner", 5), ("_", 6)]) (ct_pair (i := 5) (j := 6) (by decide) (by decide)) rfl sc_least.nd rfl rfl (sw_true rfl rfl rfl (by decide +kernel)) (mi_seq rfl (me_ix rfl (me_var (pv 0)) me_int)) (blkOk_by (own := [("inner", 5), ("_", 6)]) (N := ["layout", "sizes", "widths", "heights", "borders", "inner", "_", "size"]) (sc := defScope s_least) (by decide +kernel)) (fun _ _ _ _ _ => pg_tup rfl (pgs_cons (pg_name (i := 5) sc_least.nd rfl (Or.inl rfl)) (pgs_cons (pg_name (i := 6) sc_least.nd rfl (Or.inl rfl)) pgs_nil))) (fun _ _ _ _ _ => mts_nil) (fun _ _ _ _ _ => (me_call (fn_gz (raw_least T n) (gz_least n)) (hr.mono (by first | decide | omega | (simp only [Nat.add_eq]; omega))) rfl T.g_least T.F_least.kp T.b_least rfl (ma_cons (me_var (pv 5)) ma_nil)))) (mss_cons (ms_setLc (i := 2) (ownP := [("size", 7)]) (ct_name (i := 7) (by decide)) rfl sc_least.nd rfl rfl (sw_true rfl rfl rfl (by decide +kernel)) (mi_seq rfl (me_var (pv 1))) (blkOk_by (own := [("size", 7)]) (N := ["layout", "sizes", "widths", "heights", "borders", "inner", "_", "size"]) (sc := defScope s_least) (by decide +kernel)) (fun _ _ _ _ _ => pg_name (i := 7) sc_least.nd rfl (Or.inl rfl)) (fun _ _ _ _ _ => mts_nil) (fun _ _ _ _ _ => (me_ix rfl (me_var (pv 7)) me_int))) (mss_cons (ms_setLc (i := 3) (ownP := [("size", 7)]) (ct_name (i := 7) (by decide)) rfl sc_least.nd rfl rfl (sw_true rfl rfl rfl (by decide +kernel)) (mi_seq rfl (me_var (pv 1))) (blkOk_by (own := [("size", 7)]) (N := ["layout", "sizes", "widths", "heights", "borders", "inner", "_", "size"]) (sc := defScope s_least) (by decide +kernel)) (fun _ _ _ _ _ => pg_name (i := 7) sc_least.nd rfl (Or.inl rfl)) (fun _ _ _ _ _ => mts_nil) (fun _ _ _ _ _ => (me_ix rfl (me_var (pv 7)) me_int))) (mss_cons (ms_set (i := 4) sc_least.nd rfl (Or.inl rfl) (me_op op_sub om_sub (me_callB call_len_seq cm_len rfl T.n_len (by decide +kernel) (ma_cons (me_var (pv 1)) ma_nil)) me_int)) (mss_cons (ms_if (mt_cmp (op_eqD hr.units) om_eq (me_ix rfl (me_var (pv 0)) me_int) (me_gstr rfl T.gs_BESIDE) (nomark _)) (mss_one (ms_ret (me_tup (ma_cons (me_op or_add om_add (me_callB (cr_sum rfl) cm_sum rfl T.n_sum (by decide +kernel) (ma_cons (me_var (pv 2)) ma_nil)) (me_var (pv 4))) (ma_cons (me_callB (cr_maxU rfl) cm_max rfl T.n_max (by decide +kernel) (ma_cons (me_var (pv 3)) ma_nil)) ma_nil))))) mss_nil) (mss_one (ms_ret (me_tup (ma_cons (me_callB (cr_maxU rfl) cm_max rfl T.n_max (by decide +kernel) (ma_cons (me_var (pv 2)) ma_nil)) (ma_cons (me_op or_add om_add (me_callB (cr_sum rfl) cm_sum rfl T.n_sum (by decide +kernel) (ma_cons (me_var (pv 3)) ma_nil)) (me_var (pv 4))) ma_nil)))))))))))
theorem ok_least (T : Txt K mg A w) (n : Nat) : FnOk P w K mg base CX0 (1 + n) A.a_least A.fd_least ["layout"] (sp0 (cx K A) 1 (d_least n)) := fn_gz (raw_least T n) (gz_least n)
theorem raw_share (T : Txt K mg A w) : FnOk P w K mg base CX0 1 A.a_share A.fd_share ["total", "smallest", "sizes"] (sp0 (cx K A) 3 r_share) :=
  fn_ok (N := ["total", "smallest", "sizes", "spare", "extras", "weight", "result", "rest", "index", "extra", "size", "low"]) T.F_share sc_share rfl rfl fun cdv A1 outer sh H E hr => (mss_cons (ms_set (i := 3) sc_share.nd rfl (Or.inr rfl) (me_callB (cr_maxU rfl) cm_max rfl T.n_max (by decide +kernel) (ma_cons me_int (ma_cons (me_op op_sub om_sub (me_op op_sub om_sub (me_var (pv 0)) (me_op op_sub om_sub (me_callB call_len_seq cm_len rfl T.n_len (by decide +kernel) (ma_cons (me_var (pv 2)) ma_nil)) me_int)) (me_callB (cr_sum rfl) cm_sum rfl T.n_sum (by decide +kernel) (ma_cons (me_var (pv 1)) ma_nil))) ma_nil)))) (mss_cons (ms_setLc (i := 4) (ownP := [("size", 10), ("low", 11)]) (ct_pair (i := 10) (j := 11) (by decide) (by decide)) rfl sc_share.nd rfl rfl (sw_true rfl rfl rfl (by decide +kernel)) (mi_zip rfl rfl T.n_zip (ma_cons (me_var (pv 2)) (ma_cons (me_var (pv 1)) ma_nil))) (blkOk_by (own := [("size", 10), ("low", 11)]) (N := ["total", "smallest", "sizes", "spare", "extras", "weight", "result", "rest", "index", "extra", "size", "low"]) (sc := defScope s_share) (by decide +kernel)) (fun _ _ _ _ _ => pg_tup rfl (pgs_cons (pg_name (i := 10) sc_share.nd rfl (Or.inl rfl)) (pgs_cons (pg_name (i := 11) sc_share.nd rfl (Or.inl rfl)) pgs_nil))) (fun _ _ _ _ _ => mts_nil) (fun _ _ _ _ _ => (me_callB (cr_maxU rfl) cm_max rfl T.n_max (by decide +kernel) (ma_cons me_int (ma_cons (me_op op_sub om_sub (me_var (pv 10)) (me_var (pv 11))) ma_nil))))) (mss_cons (ms_if (mt_cmp (op_eqD hr.units) om_eq (me_callB (cr_sum rfl) cm_sum rfl T.n_sum (by decide +kernel) (ma_cons (me_var (pv 4)) ma_nil)) me_int (nomark _)) (mss_one (ms_set (i := 4) sc_share.nd rfl (Or.inl rfl) (me_op or_mul om_mul (me_fl (ma_cons me_int ma_nil)) (me_callB call_len_seq cm_len rfl T.n_len (by decide +kernel) (ma_cons (me_var (pv 2)) ma_nil))))) mss_nil) (mss_cons (ms_set (i := 5) sc_share.nd rfl (Or.inr rfl) (me_callB (cr_sum rfl) cm_sum rfl T.n_sum (by decide +kernel) (ma_cons (me_var (pv 4)) ma_nil))) (mss_cons (ms_setLcQ (i := 6) (ownP := [("low", 11), ("extra", 9)]) (ct_pair (i := 11) (j := 9) (by decide) (by decide)) rfl sc_share.nd rfl rfl (sw_true rfl rfl rfl (by decide +kernel)) (mi_zip rfl rfl T.n_zip (ma_cons (me_var (pv 1)) (ma_cons (me_var (pv 4)) ma_nil))) (blkOk_by (own := [("low", 11), ("extra", 9)]) (N := ["total", "smallest", "sizes", "spare", "extras", "weight", "result", "rest", "index", "extra", "size", "low"]) (sc := defScope s_share) (by decide +kernel)) (fun _ _ _ _ _ => pg_tup rfl (pgs_cons (pg_name (i := 11) sc_share.nd rfl (Or.inl rfl)) (pgs_cons (pg_name (i := 9) sc_share.nd rfl (Or.inl rfl)) pgs_nil))) (fun _ _ _ _ _ => mts_nil) (fun _ _ _ _ _ => (me_op or_add om_add (me_var (pv 11)) (me_op op_fdiv om_fdiv (me_op or_mul om_mul (me_var (pv 3)) (me_var (pv 9))) (me_var (pv 5)))))) (mss_cons (ms_set (i := 7) sc_share.nd rfl (Or.inl rfl) (me_op op_sub om_sub (me_var (pv 3)) (me_op op_sub om_sub (me_callB (cr_sum rfl) cm_sum rfl T.n_sum (by decide +kernel) (ma_cons (me_var (pv 6)) ma_nil)) (me_callB (cr_sum rfl) cm_sum rfl T.n_sum (by decide +kernel) (ma_cons (me_var (pv 1)) ma_nil))))) (mss_cons (ms_for PassesOwn.never rfl (mi_enum rfl rfl T.n_enumerate (ma_cons (me_var (pv 4)) ma_nil)) (mg_tup rfl rfl (mgs_cons (mg_name (i := 8) sc_share.nd rfl (Or.inl rfl)) (mgs_cons (mg_name (i := 9) sc_share.nd rfl (Or.inl rfl)) mgs_nil))) (mss_one (ms_if (mt_w (mw_and (mt_cmp op_gt om_gt (me_var (pv 9)) me_int (nomark _)) (mw_and1 (mt_cmp op_gt om_gt (me_var (pv 7)) me_int (nomark _))))) (mss_cons (ms_augI rfl (me_var (pv 6)) (me_var (pv 8)) me_int ip_add om_ipI) (mss_one (ms_aug (i := 7) sc_share.nd rfl (Or.inl rfl) me_int ip_sub om_ipI))) mss_nil))) (mss_one (ms_ret (me_var (pv 6)))))))))))
theorem ok_share (T : Txt K mg A w) : FnOk P w K mg base CX0 1 A.a_share A.fd_share ["total", "smallest", "sizes"] (sp0 (cx K A) 3 d_share) := fn_gz (raw_share T) gz_share
theorem raw_fitted (T : Txt K mg A w) : ∀ n : Nat, FnOk P w K mg base CX0 (22 + n) A.a_fitted A.fd_fitted ["layout", "width", "height"] (sp0 (cx K A) 3 (r_fitted n))
  | 0 => fn_ok (N := ["layout", "width", "height", "low", "direction", "parts", "axis", "smallest", "sizes", "news", "inner", "_", "size"]) T.F_fitted sc_fitted rfl rfl fun cdv A1 outer sh H E hr => mss_never
  | n + 1 => fn_ok (N := ["layout", "width", "height", "low", "direction", "parts", "axis", "smallest", "sizes", "news", "inner", "_", "size"]) T.F_fitted sc_fitted rfl rfl fun cdv A1 outer sh H E hr => (mss_cons (ms_if (mt_truth rfl (me_isi (T := .int) (by intro z; cases z) rfl (me_var (pv 0)) (pe_bltn rfl T.n_int (by decide +kernel) rfl) rfl T.n_isinstance)) (mss_one (ms_ret (me_var (pv 0)))) mss_nil) (mss_cons (ms_set (i := 3) sc_fitted.nd rfl (Or.inl rfl) (me_call (ok_least T 20) (hr.mono (by first | decide | omega | (simp only [Nat.add_eq]; omega))) rfl T.g_least T.F_least.kp T.b_least rfl (ma_cons (me_var (pv 0)) ma_nil))) (mss_cons (ms_set (i := 1) sc_fitted.nd rfl (Or.inl rfl) (me_callB (cr_maxU rfl) cm_max rfl T.n_max (by decide +kernel) (ma_cons (me_var (pv 1)) (ma_cons (me_ix rfl (me_var (pv 3)) me_int) ma_nil)))) (mss_cons (ms_set (i := 2) sc_fitted.nd rfl (Or.inl rfl) (me_callB (cr_maxU rfl) cm_max rfl T.n_max (by decide +kernel) (ma_cons (me_var (pv 2)) (ma_cons (me_ix rfl (me_var (pv 3)) me_int) ma_nil)))) (mss_cons (ms_asg (me_var (pv 0)) (mg_tup rfl rfl (mgs_cons (mg_name (i := 4) sc_fitted.nd rfl (Or.inl rfl)) (mgs_cons (mg_name (i := 5) sc_fitted.nd rfl (Or.inl rfl)) mgs_nil)))) (mss_cons (ms_set (i := 6) sc_fitted.nd rfl (Or.inr rfl) (me_call (ok_axis_of T) (hr.mono (by first | decide | omega | (simp only [Nat.add_eq]; omega))) rfl T.g_axis_of T.F_axis_of.kp T.b_axis_of rfl (ma_cons (me_var (pv 4)) ma_nil))) (mss_cons (ms_setLc (i := 7) (ownP := [("inner", 10), ("_", 11)]) (ct_pair (i := 10) (j := 11) (by decide) (by decide)) rfl sc_fitted.nd rfl rfl (sw_true rfl rfl rfl (by decide +kernel)) (mi_seq rfl (me_var (pv 5))) (blkOk_by (own := [("inner", 10), ("_", 11)]) (N := ["layout", "width", "height", "low", "direction", "parts", "axis", "smallest", "sizes", "news", "inner", "_", "size"]) (sc := defScope s_fitted) (by decide +kernel)) (fun _ _ _ _ _ => pg_tup rfl (pgs_cons (pg_name (i := 10) sc_fitted.nd rfl (Or.inl rfl)) (pgs_cons (pg_name (i := 11) sc_fitted.nd rfl (Or.inl rfl)) pgs_nil))) (fun _ _ _ _ _ => mts_nil) (fun _ _ _ _ _ => (me_ix rfl (me_call (ok_least T 20) (hr.mono (by first | decide | omega | (simp only [Nat.add_eq]; omega))) rfl T.g_least T.F_least.kp T.b_least rfl (ma_cons (me_var (pv 10)) ma_nil)) (me_var (pv 6))))) (mss_cons (ms_set (i := 8) sc_fitted.nd rfl (Or.inl rfl) (me_call (ok_share T) (hr.mono (by first | decide | omega | (simp only [Nat.add_eq]; omega))) rfl T.g_share T.F_share.kp T.b_share rfl (ma_cons (me_if (mt_cmp (op_eqD hr.units) om_eq (me_var (pv 6)) me_int (nomark _)) (me_var (pv 1)) (me_var (pv 2))) (ma_cons (me_var (pv 7)) (ma_cons (me_lc (ownP := [("_", 11), ("size", 12)]) (ct_pair (i := 11) (j := 12) (by decide) (by decide)) rfl sc_fitted.nd (mi_seq rfl (me_var (pv 5))) (blkOk_by (own := [("_", 11), ("size", 12)]) (N := ["layout", "width", "height", "low", "direction", "parts", "axis", "smallest", "sizes", "news", "inner", "_", "size"]) (sc := defScope s_fitted) (by decide +kernel)) (fun _ _ _ _ _ => pg_tup rfl (pgs_cons (pg_name (i := 11) sc_fitted.nd rfl (Or.inl rfl)) (pgs_cons (pg_name (i := 12) sc_fitted.nd rfl (Or.inl rfl)) pgs_nil))) (fun _ _ _ _ _ => mts_nil) (fun _ _ _ _ _ => (me_var (pv 12)))) ma_nil))))) (mss_cons (ms_set (i := 9) sc_fitted.nd rfl (Or.inl rfl) (me_ls ma_nil)) (mss_cons (ms_for PassesOwn.never rfl (mi_zipM rfl rfl T.n_zip (ma_cons (me_var (pv 5)) (ma_cons (me_var (pv 8)) ma_nil))) (mg_tup rfl rfl (mgs_cons (mg_tup rfl rfl (mgs_cons (mg_name (i := 10) sc_fitted.nd rfl (Or.inl rfl)) (mgs_cons (mg_name (i := 11) sc_fitted.nd rfl (Or.inl rfl)) mgs_nil))) (mgs_cons (mg_name (i := 12) sc_fitted.nd rfl (Or.inl rfl)) mgs_nil))) (mss_one (ms_if (mt_cmp (op_eqD hr.units) om_eq (me_var (pv 6)) me_int (nomark _)) (mss_one (ms_expr (me_lm rfl mm_append PySem.F.slot_list_append PySem.F.type_list_append mt_append (me_var (pv 9)) (ma_cons (me_tup (ma_cons (me_call (fn_gz (raw_fitted T n) (gz_fitted n)) (hr.mono (by first | decide | omega | (simp only [Nat.add_eq]; omega))) rfl T.g_fitted T.F_fitted.kp T.b_fitted rfl (ma_cons (me_var (pv 10)) (ma_cons (me_var (pv 12)) (ma_cons (me_var (pv 2)) ma_nil)))) (ma_cons (me_var (pv 12)) ma_nil))) ma_nil)))) (mss_one (ms_expr (me_lm rfl mm_append PySem.F.slot_list_append PySem.F.type_list_append mt_append (me_var (pv 9)) (ma_cons (me_tup (ma_cons (me_call (fn_gz (raw_fitted T n) (gz_fitted n)) (hr.mono (by first | decide | omega | (simp only [Nat.add_eq]; omega))) rfl T.g_fitted T.F_fitted.kp T.b_fitted rfl (ma_cons (me_var (pv 10)) (ma_cons (me_var (pv 1)) (ma_cons (me_var (pv 12)) ma_nil)))) (ma_cons (me_var (pv 12)) ma_nil))) ma_nil))))))) (mss_one (ms_ret (me_tup (ma_cons (me_var (pv 4)) (ma_cons (me_callTy call_tuple_of cm_tuple rfl T.n_tuple (by decide +kernel) (ma_cons (me_var (pv 9)) ma_nil)) ma_nil)))))))))))))))
theorem ok_fitted (T : Txt K mg A w) (n : Nat) : FnOk P w K mg base CX0 (22 + n) A.a_fitted A.fd_fitted ["layout", "width", "height"] (sp0 (cx K A) 3 (d_fitted n)) := fn_gz (raw_fitted T n) (gz_fitted n)
theorem raw_placed (T : Txt K mg A w) : ∀ n : Nat, FnOk P w K mg base CX0 (1 + n) A.a_placed A.fd_placed ["layout", "row", "column", "width", "height"] (sp0 (cx K A) 5 (r_placed n))
  | 0 => fn_ok (N := ["layout", "row", "column", "width", "height", "found", "borders", "direction", "parts", "index", "inner", "size", "more"]) T.F_placed sc_placed rfl rfl fun cdv A1 outer sh H E hr => mss_never
  | n + 1 => fn_ok (N := ["layout", "row", "column", "width", "height", "found", "borders", "direction", "parts", "index", "inner", "size", "more"]) T.F_placed sc_placed rfl rfl fun cdv A1 outer sh H E hr => (mss_cons (ms_if (mt_truth rfl (me_isi (T := .int) (by intro z; cases z) rfl (me_var (pv 0)) (pe_bltn rfl T.n_int (by decide +kernel) rfl) rfl T.n_isinstance)) (mss_one (ms_ret (me_tup (ma_cons (me_fl (ma_cons (me_tup (ma_cons (me_var (pv 0)) (ma_cons (me_var (pv 1)) (ma_cons (me_var (pv 2)) (ma_cons (me_var (pv 3)) (ma_cons (me_var (pv 4)) ma_nil)))))) ma_nil)) (ma_cons (me_fl ma_nil) ma_nil))))) mss_nil) (mss_cons (ms_set (i := 5) sc_placed.nd rfl (Or.inl rfl) (me_fl ma_nil)) (mss_cons (ms_set (i := 6) sc_placed.nd rfl (Or.inl rfl) (me_ls ma_nil)) (mss_cons (ms_asg (me_var (pv 0)) (mg_tup rfl rfl (mgs_cons (mg_name (i := 7) sc_placed.nd rfl (Or.inl rfl)) (mgs_cons (mg_name (i := 8) sc_placed.nd rfl (Or.inl rfl)) mgs_nil)))) (mss_cons (ms_for PassesOwn.never rfl (mi_enumA rfl rfl T.n_enumerate (ma_cons (me_var (pv 8)) ma_nil)) (mg_tup rfl rfl (mgs_cons (mg_name (i := 9) sc_placed.nd rfl (Or.inl rfl)) (mgs_cons (mg_tup rfl rfl (mgs_cons (mg_name (i := 10) sc_placed.nd rfl (Or.inl rfl)) (mgs_cons (mg_name (i := 11) sc_placed.nd rfl (Or.inl rfl)) mgs_nil))) mgs_nil))) (mss_cons (ms_if (mt_cmp (op_eqD hr.units) om_eq (me_var (pv 7)) (me_gstr rfl T.gs_BESIDE) (nomark _)) (mss_cons (ms_if (mt_cmp op_gt om_gt (me_var (pv 9)) me_int (nomark _)) (mss_one (ms_expr (me_lm rfl mm_append PySem.F.slot_list_append PySem.F.type_list_append mt_append (me_var (pv 6)) (ma_cons (me_tup (ma_cons me_int (ma_cons (me_var (pv 1)) (ma_cons (me_op op_sub om_sub (me_var (pv 2)) me_int) (ma_cons me_int (ma_cons (me_var (pv 4)) ma_nil)))))) ma_nil)))) mss_nil) (mss_cons (ms_set (i := 12) sc_placed.nd rfl (Or.inl rfl) (me_call (fn_gz (raw_placed T n) (gz_placed n)) (hr.mono (by first | decide | omega | (simp only [Nat.add_eq]; omega))) rfl T.g_placed T.F_placed.kp T.b_placed rfl (ma_cons (me_var (pv 10)) (ma_cons (me_var (pv 1)) (ma_cons (me_var (pv 2)) (ma_cons (me_var (pv 11)) (ma_cons (me_var (pv 4)) ma_nil))))))) (mss_one (ms_aug (i := 2) sc_placed.nd rfl (Or.inl rfl) (me_op or_add om_add (me_var (pv 11)) me_int) ip_add om_ipI)))) (mss_cons (ms_if (mt_cmp op_gt om_gt (me_var (pv 9)) me_int (nomark _)) (mss_one (ms_expr (me_lm rfl mm_append PySem.F.slot_list_append PySem.F.type_list_append mt_append (me_var (pv 6)) (ma_cons (me_tup (ma_cons me_int (ma_cons (me_op op_sub om_sub (me_var (pv 1)) me_int) (ma_cons (me_var (pv 2)) (ma_cons (me_var (pv 3)) (ma_cons me_int ma_nil)))))) ma_nil)))) mss_nil) (mss_cons (ms_set (i := 12) sc_placed.nd rfl (Or.inl rfl) (me_call (fn_gz (raw_placed T n) (gz_placed n)) (hr.mono (by first | decide | omega | (simp only [Nat.add_eq]; omega))) rfl T.g_placed T.F_placed.kp T.b_placed rfl (ma_cons (me_var (pv 10)) (ma_cons (me_var (pv 1)) (ma_cons (me_var (pv 2)) (ma_cons (me_var (pv 3)) (ma_cons (me_var (pv 11)) ma_nil))))))) (mss_one (ms_aug (i := 1) sc_placed.nd rfl (Or.inl rfl) (me_op or_add om_add (me_var (pv 11)) me_int) ip_add om_ipI))))) (mss_cons (ms_set (i := 5) sc_placed.nd rfl (Or.inl rfl) (me_op or_add om_add (me_var (pv 5)) (me_ix rfl (me_var (pv 12)) me_int))) (mss_one (ms_set (i := 6) sc_placed.nd rfl (Or.inl rfl) (me_op or_add om_addL (me_var (pv 6)) (me_ix rfl (me_var (pv 12)) me_int))))))) (mss_one (ms_ret (me_tup (ma_cons (me_var (pv 5)) (ma_cons (me_var (pv 6)) ma_nil))))))))))
theorem ok_placed (T : Txt K mg A w) (n : Nat) : FnOk P w K mg base CX0 (1 + n) A.a_placed A.fd_placed ["layout", "row", "column", "width", "height"] (sp0 (cx K A) 5 (d_placed n)) := fn_gz (raw_placed T n) (gz_placed n)
theorem raw_placed_whole (T : Txt K mg A w) : FnOk P w K mg base CX0 43 A.a_placed_whole A.fd_placed_whole ["layout", "width", "height"] (sp0 (cx K A) 3 r_placed_whole) :=
  fn_ok (N := ["layout", "width", "height", "low"]) T.F_placed_whole sc_placed_whole rfl rfl fun cdv A1 outer sh H E hr => (mss_cons (ms_set (i := 3) sc_placed_whole.nd rfl (Or.inl rfl) (me_call (ok_least T 20) (hr.mono (by first | decide | omega | (simp only [Nat.add_eq]; omega))) rfl T.g_least T.F_least.kp T.b_least rfl (ma_cons (me_var (pv 0)) ma_nil))) (mss_one (ms_ret (me_call (ok_placed T 20) (hr.mono (by first | decide | omega | (simp only [Nat.add_eq]; omega))) rfl T.g_placed T.F_placed.kp T.b_placed rfl (ma_cons (me_call (ok_fitted T 20) (hr.mono (by first | decide | omega | (simp only [Nat.add_eq]; omega))) rfl T.g_fitted T.F_fitted.kp T.b_fitted rfl (ma_cons (me_var (pv 0)) (ma_cons (me_var (pv 1)) (ma_cons (me_var (pv 2)) ma_nil)))) (ma_cons me_int (ma_cons me_int (ma_cons (me_callB (cr_maxU rfl) cm_max rfl T.n_max (by decide +kernel) (ma_cons (me_var (pv 1)) (ma_cons (me_ix rfl (me_var (pv 3)) me_int) ma_nil))) (ma_cons (me_callB (cr_maxU rfl) cm_max rfl T.n_max (by decide +kernel) (ma_cons (me_var (pv 2)) (ma_cons (me_ix rfl (me_var (pv 3)) me_int) ma_nil))) ma_nil)))))))))
theorem ok_placed_whole (T : Txt K mg A w) : FnOk P w K mg base CX0 43 A.a_placed_whole A.fd_placed_whole ["layout", "width", "height"] (sp0 (cx K A) 3 d_placed_whole) := fn_gz (raw_placed_whole T) gz_placed_whole
theorem raw_boxes (T : Txt K mg A w) : FnOk P w K mg base CX0 44 A.a_boxes A.fd_boxes ["layout", "width", "height"] (sp0 (cx K A) 3 r_boxes) :=
  fn_ok (N := ["layout", "width", "height"]) T.F_boxes sc_boxes rfl rfl fun cdv A1 outer sh H E hr => (mss_one (ms_ret (me_ix rfl (me_call (ok_placed_whole T) (hr.mono (by first | decide | omega | (simp only [Nat.add_eq]; omega))) rfl T.g_placed_whole T.F_placed_whole.kp T.b_placed_whole rfl (ma_cons (me_var (pv 0)) (ma_cons (me_var (pv 1)) (ma_cons (me_var (pv 2)) ma_nil)))) me_int)))
theorem ok_boxes (T : Txt K mg A w) : FnOk P w K mg base CX0 44 A.a_boxes A.fd_boxes ["layout", "width", "height"] (sp0 (cx K A) 3 d_boxes) := raw_boxes T
theorem raw_size_of (T : Txt K mg A w) : FnOk P w K mg base CX0 45 A.a_size_of A.fd_size_of ["layout", "width", "height", "pane", "axis"] (sp0 (cx K A) 5 r_size_of) :=
  fn_ok (N := ["layout", "width", "height", "pane", "axis", "box"]) T.F_size_of sc_size_of rfl rfl fun cdv A1 outer sh H E hr => (mss_cons (ms_for PassesOwn.never rfl (mi_seq rfl (me_call (ok_boxes T) (hr.mono (by first | decide | omega | (simp only [Nat.add_eq]; omega))) rfl T.g_boxes T.F_boxes.kp T.b_boxes rfl (ma_cons (me_var (pv 0)) (ma_cons (me_var (pv 1)) (ma_cons (me_var (pv 2)) ma_nil))))) (mg_name (i := 5) sc_size_of.nd rfl (Or.inl rfl)) (mss_one (ms_if (mt_cmp (op_eqD hr.units) om_eq (me_ix rfl (me_var (pv 5)) me_int) (me_var (pv 3)) (nomark _)) (mss_one (ms_ret (me_ix rfl (me_var (pv 5)) (me_op or_add om_add me_int (me_var (pv 4)))))) mss_nil))) (mss_one (ms_ret me_int)))
theorem ok_size_of (T : Txt K mg A w) : FnOk P w K mg base CX0 45 A.a_size_of A.fd_size_of ["layout", "width", "height", "pane", "axis"] (sp0 (cx K A) 5 d_size_of) := fn_gz (raw_size_of T) gz_size_of
theorem raw_panes (T : Txt K mg A w) : ∀ n : Nat, FnOk P w K mg base CX0 (1 + n) A.a_panes A.fd_panes ["layout"] (sp0 (cx K A) 1 (r_panes n))
  | 0 => fn_ok (N := ["layout", "result", "inner", "_"]) T.F_panes sc_panes rfl rfl fun cdv A1 outer sh H E hr => mss_never
  | n + 1 => fn_ok (N := ["layout", "result", "inner", "_"]) T.F_panes sc_panes rfl rfl fun cdv A1 outer sh H E hr => (mss_cons (ms_if (mt_truth rfl (me_isi (T := .int) (by intro z; cases z) rfl (me_var (pv 0)) (pe_bltn rfl T.n_int (by decide +kernel) rfl) rfl T.n_isinstance)) (mss_one (ms_ret (me_fl (ma_cons (me_var (pv 0)) ma_nil)))) mss_nil) (mss_cons (ms_set (i := 1) sc_panes.nd rfl (Or.inl rfl) (me_fl ma_nil)) (mss_cons (ms_for PassesOwn.never rfl (mi_seq rfl (me_ix rfl (me_var (pv 0)) me_int)) (mg_tup rfl rfl (mgs_cons (mg_name (i := 2) sc_panes.nd rfl (Or.inl rfl)) (mgs_cons (mg_name (i := 3) sc_panes.nd rfl (Or.inl rfl)) mgs_nil))) (mss_one (ms_set (i := 1) sc_panes.nd rfl (Or.inl rfl) (me_op or_add om_add (me_var (pv 1)) (me_call (fn_gz (raw_panes T n) (gz_panes n)) (hr.mono (by first | decide | omega | (simp only [Nat.add_eq]; omega))) rfl T.g_panes T.F_panes.kp T.b_panes rfl (ma_cons (me_var (pv 2)) ma_nil)))))) (mss_one (ms_ret (me_var (pv 1)))))))
theorem ok_panes (T : Txt K mg A w) (n : Nat) : FnOk P w K mg base CX0 (1 + n) A.a_panes A.fd_panes ["layout"] (sp0 (cx K A) 1 (d_panes n)) := fn_gz (raw_panes T n) (gz_panes n)
theorem raw_with_new (T : Txt K mg A w) : ∀ n : Nat, FnOk P w K mg base CX0 (22 + n) A.a_with_new A.fd_with_new ["layout", "pane", "direction", "new", "size"] (sp0 (cx K A) 5 (r_with_new n))
  | 0 => fn_ok (N := ["layout", "pane", "direction", "new", "size", "half", "pair", "news", "inner", "length"]) T.F_with_new sc_with_new rfl rfl fun cdv A1 outer sh H E hr => mss_never
  | n + 1 => fn_ok (N := ["layout", "pane", "direction", "new", "size", "half", "pair", "news", "inner", "length"]) T.F_with_new sc_with_new rfl rfl fun cdv A1 outer sh H E hr => (mss_cons (ms_set (i := 5) sc_with_new.nd rfl (Or.inl rfl) (me_op op_fdiv om_fdiv (me_op op_sub om_sub (me_var (pv 4)) me_int) me_int)) (mss_cons (ms_set (i := 6) sc_with_new.nd rfl (Or.inl rfl) (me_tup (ma_cons (me_tup (ma_cons (me_var (pv 1)) (ma_cons (me_op op_sub om_sub (me_op op_sub om_sub (me_var (pv 4)) me_int) (me_var (pv 5))) ma_nil))) (ma_cons (me_tup (ma_cons (me_var (pv 3)) (ma_cons (me_var (pv 5)) ma_nil))) ma_nil)))) (mss_cons (ms_if (mt_cmp (op_eqD hr.units) om_eq (me_var (pv 0)) (me_var (pv 1)) (nomark _)) (mss_one (ms_ret (me_tup (ma_cons (me_var (pv 2)) (ma_cons (me_var (pv 6)) ma_nil))))) mss_nil) (mss_cons (ms_set (i := 7) sc_with_new.nd rfl (Or.inl rfl) (me_ls ma_nil)) (mss_cons (ms_for PassesOwn.never rfl (mi_seq rfl (me_ix rfl (me_var (pv 0)) me_int)) (mg_tup rfl rfl (mgs_cons (mg_name (i := 8) sc_with_new.nd rfl (Or.inl rfl)) (mgs_cons (mg_name (i := 9) sc_with_new.nd rfl (Or.inl rfl)) mgs_nil))) (mss_one (ms_if (mt_w (mw_and (mt_cmp (op_eqD hr.units) om_eq (me_var (pv 8)) (me_var (pv 1)) (nomark _)) (mw_and1 (mt_cmp (op_eqD hr.units) om_eq (me_ix rfl (me_var (pv 0)) me_int) (me_var (pv 2)) (nomark _))))) (mss_one (ms_expr (me_lm rfl mm_extendT PySem.F.slot_list_extend PySem.F.type_list_extend mt_extendT (me_var (pv 7)) (ma_cons (me_var (pv 6)) ma_nil)))) (mss_one (ms_if (mt_cmp op_in_seq om_in (me_var (pv 1)) (me_call (ok_panes T 20) (hr.mono (by first | decide | omega | (simp only [Nat.add_eq]; omega))) rfl T.g_panes T.F_panes.kp T.b_panes rfl (ma_cons (me_var (pv 8)) ma_nil)) (by rfl)) (mss_one (ms_expr (me_lm rfl mm_append PySem.F.slot_list_append PySem.F.type_list_append mt_append (me_var (pv 7)) (ma_cons (me_tup (ma_cons (me_call (fn_gz (raw_with_new T n) (gz_with_new n)) (hr.mono (by first | decide | omega | (simp only [Nat.add_eq]; omega))) rfl T.g_with_new T.F_with_new.kp T.b_with_new rfl (ma_cons (me_var (pv 8)) (ma_cons (me_var (pv 1)) (ma_cons (me_var (pv 2)) (ma_cons (me_var (pv 3)) (ma_cons (me_var (pv 4)) ma_nil)))))) (ma_cons (me_var (pv 9)) ma_nil))) ma_nil)))) (mss_one (ms_expr (me_lm rfl mm_append PySem.F.slot_list_append PySem.F.type_list_append mt_append (me_var (pv 7)) (ma_cons (me_tup (ma_cons (me_var (pv 8)) (ma_cons (me_var (pv 9)) ma_nil))) ma_nil))))))))) (mss_one (ms_ret (me_tup (ma_cons (me_ix rfl (me_var (pv 0)) me_int) (ma_cons (me_callTy call_tuple_of cm_tuple rfl T.n_tuple (by decide +kernel) (ma_cons (me_var (pv 7)) ma_nil)) ma_nil))))))))))
theorem ok_with_new (T : Txt K mg A w) (n : Nat) : FnOk P w K mg base CX0 (22 + n) A.a_with_new A.fd_with_new ["layout", "pane", "direction", "new", "size"] (sp0 (cx K A) 5 (d_with_new n)) := fn_gz (raw_with_new T n) (gz_with_new n)
theorem raw_divided (T : Txt K mg A w) : FnOk P w K mg base (L2.CX P w) 46 A.a_divided A.fd_divided ["layout", "width", "height", "pane", "direction", "new"] (spX (cx K A) 6 r_divided) :=
  fn_okX (N := ["layout", "width", "height", "pane", "direction", "new", "size"]) T.F_divided sc_divided rfl rfl fun cdv A1 outer sh H E hr => (mss_cons (ms_nx (ms_set (i := 0) sc_divided.nd rfl (Or.inl rfl) (me_call (ok_fitted T 20) (hr.mono (by first | decide | omega | (simp only [Nat.add_eq]; omega))) rfl T.g_fitted T.F_fitted.kp T.b_fitted rfl (ma_cons (me_var (pv 0)) (ma_cons (me_var (pv 1)) (ma_cons (me_var (pv 2)) ma_nil)))))) (mss_cons (ms_nx (ms_set (i := 6) sc_divided.nd rfl (Or.inl rfl) (me_call (ok_size_of T) (hr.mono (by first | decide | omega | (simp only [Nat.add_eq]; omega))) rfl T.g_size_of T.F_size_of.kp T.b_size_of rfl (ma_cons (me_var (pv 0)) (ma_cons (me_var (pv 1)) (ma_cons (me_var (pv 2)) (ma_cons (me_var (pv 3)) (ma_cons (me_call (ok_axis_of T) (hr.mono (by first | decide | omega | (simp only [Nat.add_eq]; omega))) rfl T.g_axis_of T.F_axis_of.kp T.b_axis_of rfl (ma_cons (me_var (pv 4)) ma_nil)) ma_nil)))))))) (mss_cons (ms_if (mt_cmp op_lt om_lt (me_var (pv 6)) (me_getS T.kt_LEAST_SPLIT (me_var (pv 4)) rfl T.gd_LEAST_SPLIT) (nomark _)) (mss_one (ms_raise rfl (takes_of rfl rfl rfl rfl) rfl PySem.F.excBase_ValueError T.xe_NoRoom T.xg_NoRoom T.xk_NoRoom T.xb_NoRoom T.xt_NoRoom rfl (ma_cons (me_joined (.cons me_str (.cons (me_fmt (me_var (pv 3))) (.cons me_str .nil)))) ma_nil))) mss_nil) (mss_one (ms_nx (ms_ret (me_call (ok_fitted T 20) (hr.mono (by first | decide | omega | (simp only [Nat.add_eq]; omega))) rfl T.g_fitted T.F_fitted.kp T.b_fitted rfl (ma_cons (me_call (ok_with_new T 20) (hr.mono (by first | decide | omega | (simp only [Nat.add_eq]; omega))) rfl T.g_with_new T.F_with_new.kp T.b_with_new rfl (ma_cons (me_var (pv 0)) (ma_cons (me_var (pv 3)) (ma_cons (me_var (pv 4)) (ma_cons (me_var (pv 5)) (ma_cons (me_var (pv 6)) ma_nil)))))) (ma_cons (me_var (pv 1)) (ma_cons (me_var (pv 2)) ma_nil))))))))))
theorem ok_divided (T : Txt K mg A w) : FnOk P w K mg base (L2.CX P w) 46 A.a_divided A.fd_divided ["layout", "width", "height", "pane", "direction", "new"] (spX (cx K A) 6 d_divided) := fn_gzX (raw_divided T) gz_divided
theorem raw_shifted (T : Txt K mg A w) : FnOk P w K mg base CX0 22 A.a_shifted A.fd_shifted ["parts", "index", "axis", "amount"] (sp0 (cx K A) 4 r_shifted) :=
  fn_ok (N := ["parts", "index", "axis", "amount", "one", "first", "two", "second"]) T.F_shifted sc_shifted rfl rfl fun cdv A1 outer sh H E hr => (mss_cons (ms_asg (me_ix rfl (me_var (pv 0)) (me_var (pv 1))) (mg_tup rfl rfl (mgs_cons (mg_name (i := 4) sc_shifted.nd rfl (Or.inl rfl)) (mgs_cons (mg_name (i := 5) sc_shifted.nd rfl (Or.inl rfl)) mgs_nil)))) (mss_cons (ms_asg (me_ix rfl (me_var (pv 0)) (me_op or_addA om_addA (me_var (pv 1)) me_int)) (mg_tup rfl rfl (mgs_cons (mg_name (i := 6) sc_shifted.nd rfl (Or.inl rfl)) (mgs_cons (mg_name (i := 7) sc_shifted.nd rfl (Or.inl rfl)) mgs_nil)))) (mss_cons (ms_set (i := 3) sc_shifted.nd rfl (Or.inl rfl) (me_callB (cr_maxU rfl) cm_max rfl T.n_max (by decide +kernel) (ma_cons (me_op op_sub om_sub (me_ix rfl (me_call (ok_least T 20) (hr.mono (by first | decide | omega | (simp only [Nat.add_eq]; omega))) rfl T.g_least T.F_least.kp T.b_least rfl (ma_cons (me_var (pv 4)) ma_nil)) (me_var (pv 2))) (me_var (pv 5))) (ma_cons (me_callB (cr_minU rfl) cm_min rfl T.n_min (by decide +kernel) (ma_cons (me_var (pv 3)) (ma_cons (me_op op_sub om_sub (me_var (pv 7)) (me_ix rfl (me_call (ok_least T 20) (hr.mono (by first | decide | omega | (simp only [Nat.add_eq]; omega))) rfl T.g_least T.F_least.kp T.b_least rfl (ma_cons (me_var (pv 6)) ma_nil)) (me_var (pv 2)))) ma_nil))) ma_nil)))) (mss_one (ms_ret (me_op or_addA om_addA (me_op or_addA om_addA (me_slA rfl sm_slA (me_var (pv 0)) mo_none (mo_some (me_var (pv 1)))) (me_tup (ma_cons (me_tup (ma_cons (me_var (pv 4)) (ma_cons (me_op or_addA om_addA (me_var (pv 5)) (me_var (pv 3))) ma_nil))) (ma_cons (me_tup (ma_cons (me_var (pv 6)) (ma_cons (me_op op_sub om_sub (me_var (pv 7)) (me_var (pv 3))) ma_nil))) ma_nil)))) (me_slA rfl sm_slA (me_var (pv 0)) (mo_some (me_op or_addA om_addA (me_var (pv 1)) me_int)) mo_none)))))))
theorem ok_shifted (T : Txt K mg A w) : FnOk P w K mg base CX0 22 A.a_shifted A.fd_shifted ["parts", "index", "axis", "amount"] (sp0 (cx K A) 4 d_shifted) := fn_gz (raw_shifted T) gz_shifted
theorem raw_with_border (T : Txt K mg A w) : ∀ n : Nat, FnOk P w K mg base CX0 (23 + n) A.a_with_border A.fd_with_border ["layout", "pane", "direction", "amount"] (sp0 (cx K A) 4 (r_with_border n))
  | 0 => fn_ok (N := ["layout", "pane", "direction", "amount", "parts", "index", "inner", "size", "changed"]) T.F_with_border sc_with_border rfl rfl fun cdv A1 outer sh H E hr => mss_never
  | n + 1 => fn_ok (N := ["layout", "pane", "direction", "amount", "parts", "index", "inner", "size", "changed"]) T.F_with_border sc_with_border rfl rfl fun cdv A1 outer sh H E hr => (mss_cons (ms_if (mt_truth rfl (me_isi (T := .int) (by intro z; cases z) rfl (me_var (pv 0)) (pe_bltn rfl T.n_int (by decide +kernel) rfl) rfl T.n_isinstance)) (mss_one (ms_ret me_non)) mss_nil) (mss_cons (ms_set (i := 4) sc_with_border.nd rfl (Or.inl rfl) (me_ix rfl (me_var (pv 0)) me_int)) (mss_cons (ms_for PassesOwn.never rfl (mi_enumA rfl rfl T.n_enumerate (ma_cons (me_var (pv 4)) ma_nil)) (mg_tup rfl rfl (mgs_cons (mg_name (i := 5) sc_with_border.nd rfl (Or.inl rfl)) (mgs_cons (mg_tup rfl rfl (mgs_cons (mg_name (i := 6) sc_with_border.nd rfl (Or.inl rfl)) (mgs_cons (mg_name (i := 7) sc_with_border.nd rfl (Or.inl rfl)) mgs_nil))) mgs_nil))) (mss_one (ms_if (mt_cmp op_in_seq om_in (me_var (pv 1)) (me_call (ok_panes T 20) (hr.mono (by first | decide | omega | (simp only [Nat.add_eq]; omega))) rfl T.g_panes T.F_panes.kp T.b_panes rfl (ma_cons (me_var (pv 6)) ma_nil)) (by rfl)) (mss_cons (ms_set (i := 8) sc_with_border.nd rfl (Or.inl rfl) (me_call (fn_gz (raw_with_border T n) (gz_with_border n)) (hr.mono (by first | decide | omega | (simp only [Nat.add_eq]; omega))) rfl T.g_with_border T.F_with_border.kp T.b_with_border rfl (ma_cons (me_var (pv 6)) (ma_cons (me_var (pv 1)) (ma_cons (me_var (pv 2)) (ma_cons (me_var (pv 3)) ma_nil)))))) (mss_cons (ms_if (mt_notN (me_var (pv 8))) (mss_one (ms_ret (me_tup (ma_cons (me_ix rfl (me_var (pv 0)) me_int) (ma_cons (me_op or_addA om_addA (me_op or_addA om_addA (me_slA rfl sm_slA (me_var (pv 4)) mo_none (mo_some (me_var (pv 5)))) (me_tup (ma_cons (me_tup (ma_cons (me_var (pv 8)) (ma_cons (me_var (pv 7)) ma_nil))) ma_nil))) (me_slA rfl sm_slA (me_var (pv 4)) (mo_some (me_op or_addA om_addA (me_var (pv 5)) me_int)) mo_none)) ma_nil))))) mss_nil) (mss_one (ms_if (mt_w (mw_and (mt_cmp (op_eqD hr.units) om_eq (me_ix rfl (me_var (pv 0)) me_int) (me_var (pv 2)) (nomark _)) (mw_and1 (mt_cmp op_lt om_lt (me_op or_addA om_addA (me_var (pv 5)) me_int) (me_callB call_len_seq cm_len rfl T.n_len (by decide +kernel) (ma_cons (me_var (pv 4)) ma_nil)) (nomark _))))) (mss_one (ms_ret (me_tup (ma_cons (me_var (pv 2)) (ma_cons (me_call (ok_shifted T) (hr.mono (by first | decide | omega | (simp only [Nat.add_eq]; omega))) rfl T.g_shifted T.F_shifted.kp T.b_shifted rfl (ma_cons (me_var (pv 4)) (ma_cons (me_var (pv 5)) (ma_cons (me_call (ok_axis_of T) (hr.mono (by first | decide | omega | (simp only [Nat.add_eq]; omega))) rfl T.g_axis_of T.F_axis_of.kp T.b_axis_of rfl (ma_cons (me_var (pv 2)) ma_nil)) (ma_cons (me_var (pv 3)) ma_nil))))) ma_nil))))) mss_nil)))) mss_nil))) (mss_one (ms_ret me_non)))))
theorem ok_with_border (T : Txt K mg A w) (n : Nat) : FnOk P w K mg base CX0 (23 + n) A.a_with_border A.fd_with_border ["layout", "pane", "direction", "amount"] (sp0 (cx K A) 4 (d_with_border n)) := fn_gz (raw_with_border T n) (gz_with_border n)
theorem raw_moved (T : Txt K mg A w) : FnOk P w K mg base CX0 44 A.a_moved A.fd_moved ["layout", "width", "height", "pane", "direction", "amount"] (sp0 (cx K A) 6 r_moved) :=
  fn_ok (N := ["layout", "width", "height", "pane", "direction", "amount", "changed"]) T.F_moved sc_moved rfl rfl fun cdv A1 outer sh H E hr => (mss_cons (ms_set (i := 0) sc_moved.nd rfl (Or.inl rfl) (me_call (ok_fitted T 20) (hr.mono (by first | decide | omega | (simp only [Nat.add_eq]; omega))) rfl T.g_fitted T.F_fitted.kp T.b_fitted rfl (ma_cons (me_var (pv 0)) (ma_cons (me_var (pv 1)) (ma_cons (me_var (pv 2)) ma_nil))))) (mss_cons (ms_set (i := 6) sc_moved.nd rfl (Or.inl rfl) (me_call (ok_with_border T 20) (hr.mono (by first | decide | omega | (simp only [Nat.add_eq]; omega))) rfl T.g_with_border T.F_with_border.kp T.b_with_border rfl (ma_cons (me_var (pv 0)) (ma_cons (me_var (pv 3)) (ma_cons (me_var (pv 4)) (ma_cons (me_var (pv 5)) ma_nil)))))) (mss_one (ms_ret (me_if (mt_isN (me_var (pv 6))) (me_var (pv 0)) (me_call (ok_fitted T 20) (hr.mono (by first | decide | omega | (simp only [Nat.add_eq]; omega))) rfl T.g_fitted T.F_fitted.kp T.b_fitted rfl (ma_cons (me_var (pv 6)) (ma_cons (me_var (pv 1)) (ma_cons (me_var (pv 2)) ma_nil)))))))))
theorem ok_moved (T : Txt K mg A w) : FnOk P w K mg base CX0 44 A.a_moved A.fd_moved ["layout", "width", "height", "pane", "direction", "amount"] (sp0 (cx K A) 6 d_moved) := fn_gz (raw_moved T) gz_moved
theorem raw_dropped (T : Txt K mg A w) : FnOk P w K mg base CX0 1 A.a_dropped A.fd_dropped ["parts", "index"] (sp0 (cx K A) 2 r_dropped) :=
  fn_ok (N := ["parts", "index", "room", "heir", "news", "at", "inner", "size"]) T.F_dropped sc_dropped rfl rfl fun cdv A1 outer sh H E hr => (mss_cons (ms_set (i := 2) sc_dropped.nd rfl (Or.inl rfl) (me_op or_add om_add (me_ix rfl (me_ix rfl (me_var (pv 0)) (me_var (pv 1))) me_int) me_int)) (mss_cons (ms_set (i := 3) sc_dropped.nd rfl (Or.inl rfl) (me_if (mt_cmp op_gt om_gt (me_var (pv 1)) me_int (nomark _)) (me_op op_sub om_sub (me_var (pv 1)) me_int) me_int)) (mss_cons (ms_set (i := 4) sc_dropped.nd rfl (Or.inl rfl) (me_ls ma_nil)) (mss_cons (ms_for PassesOwn.never rfl (mi_enumA rfl rfl T.n_enumerate (ma_cons (me_var (pv 0)) ma_nil)) (mg_tup rfl rfl (mgs_cons (mg_name (i := 5) sc_dropped.nd rfl (Or.inl rfl)) (mgs_cons (mg_tup rfl rfl (mgs_cons (mg_name (i := 6) sc_dropped.nd rfl (Or.inl rfl)) (mgs_cons (mg_name (i := 7) sc_dropped.nd rfl (Or.inl rfl)) mgs_nil))) mgs_nil))) (mss_one (ms_if (mt_cmp (op_eqD hr.units) om_eq (me_var (pv 5)) (me_var (pv 3)) (nomark _)) (mss_one (ms_expr (me_lm rfl mm_append PySem.F.slot_list_append PySem.F.type_list_append mt_append (me_var (pv 4)) (ma_cons (me_tup (ma_cons (me_var (pv 6)) (ma_cons (me_op or_add om_add (me_var (pv 7)) (me_var (pv 2))) ma_nil))) ma_nil)))) (mss_one (ms_if (mt_cmp (op_neD hr.units) om_ne (me_var (pv 5)) (me_var (pv 1)) (nomark _)) (mss_one (ms_expr (me_lm rfl mm_append PySem.F.slot_list_append PySem.F.type_list_append mt_append (me_var (pv 4)) (ma_cons (me_tup (ma_cons (me_var (pv 6)) (ma_cons (me_var (pv 7)) ma_nil))) ma_nil)))) mss_nil))))) (mss_one (ms_ret (me_var (pv 4))))))))
theorem ok_dropped (T : Txt K mg A w) : FnOk P w K mg base CX0 1 A.a_dropped A.fd_dropped ["parts", "index"] (sp0 (cx K A) 2 d_dropped) := fn_gz (raw_dropped T) gz_dropped
theorem raw_taken_out (T : Txt K mg A w) : ∀ n : Nat, FnOk P w K mg base CX0 (22 + n) A.a_taken_out A.fd_taken_out ["layout", "pane"] (sp0 (cx K A) 2 (r_taken_out n))
  | 0 => fn_ok (N := ["layout", "pane", "direction", "parts", "index", "inner", "size", "news", "rest"]) T.F_taken_out sc_taken_out rfl rfl fun cdv A1 outer sh H E hr => mss_never
  | n + 1 => fn_ok (N := ["layout", "pane", "direction", "parts", "index", "inner", "size", "news", "rest"]) T.F_taken_out sc_taken_out rfl rfl fun cdv A1 outer sh H E hr => (mss_cons (ms_asg (me_var (pv 0)) (mg_tup rfl rfl (mgs_cons (mg_name (i := 2) sc_taken_out.nd rfl (Or.inl rfl)) (mgs_cons (mg_name (i := 3) sc_taken_out.nd rfl (Or.inl rfl)) mgs_nil)))) (mss_cons (ms_for PassesOwn.never rfl (mi_enumA rfl rfl T.n_enumerate (ma_cons (me_var (pv 3)) ma_nil)) (mg_tup rfl rfl (mgs_cons (mg_name (i := 4) sc_taken_out.nd rfl (Or.inl rfl)) (mgs_cons (mg_tup rfl rfl (mgs_cons (mg_name (i := 5) sc_taken_out.nd rfl (Or.inl rfl)) (mgs_cons (mg_name (i := 6) sc_taken_out.nd rfl (Or.inl rfl)) mgs_nil))) mgs_nil))) (mss_cons (ms_if (mt_cmp (op_eqD hr.units) om_eq (me_var (pv 5)) (me_var (pv 1)) (nomark _)) (mss_cons (ms_set (i := 7) sc_taken_out.nd rfl (Or.inl rfl) (me_call (ok_dropped T) (hr.mono (by first | decide | omega | (simp only [Nat.add_eq]; omega))) rfl T.g_dropped T.F_dropped.kp T.b_dropped rfl (ma_cons (me_var (pv 3)) (ma_cons (me_var (pv 4)) ma_nil)))) (mss_cons (ms_if (mt_cmp (op_eqD hr.units) om_eq (me_callB call_len_seq cm_len rfl T.n_len (by decide +kernel) (ma_cons (me_var (pv 7)) ma_nil)) me_int (nomark _)) (mss_one (ms_ret (me_ix rfl (me_ix rfl (me_var (pv 7)) me_int) me_int))) mss_nil) (mss_one (ms_ret (me_tup (ma_cons (me_var (pv 2)) (ma_cons (me_callTy call_tuple_of cm_tuple rfl T.n_tuple (by decide +kernel) (ma_cons (me_var (pv 7)) ma_nil)) ma_nil))))))) mss_nil) (mss_one (ms_if (mt_cmp op_in_seq om_in (me_var (pv 1)) (me_call (ok_panes T 20) (hr.mono (by first | decide | omega | (simp only [Nat.add_eq]; omega))) rfl T.g_panes T.F_panes.kp T.b_panes rfl (ma_cons (me_var (pv 5)) ma_nil)) (by rfl)) (mss_cons (ms_set (i := 8) sc_taken_out.nd rfl (Or.inl rfl) (me_call (fn_gz (raw_taken_out T n) (gz_taken_out n)) (hr.mono (by first | decide | omega | (simp only [Nat.add_eq]; omega))) rfl T.g_taken_out T.F_taken_out.kp T.b_taken_out rfl (ma_cons (me_var (pv 5)) (ma_cons (me_var (pv 1)) ma_nil)))) (mss_cons (ms_if (mt_w (mw_and (mt_not (mt_truth rfl (me_isi (T := .int) (by intro z; cases z) rfl (me_var (pv 8)) (pe_bltn rfl T.n_int (by decide +kernel) rfl) rfl T.n_isinstance))) (mw_and1 (mt_cmp (op_eqD hr.units) om_eq (me_ix rfl (me_var (pv 8)) me_int) (me_var (pv 2)) (nomark _))))) (mss_one (ms_ret (me_tup (ma_cons (me_var (pv 2)) (ma_cons (me_op or_addA om_addA (me_op or_addA om_addA (me_slA rfl sm_slA (me_var (pv 3)) mo_none (mo_some (me_var (pv 4)))) (me_ix rfl (me_var (pv 8)) me_int)) (me_slA rfl sm_slA (me_var (pv 3)) (mo_some (me_op or_addA om_addA (me_var (pv 4)) me_int)) mo_none)) ma_nil))))) mss_nil) (mss_one (ms_ret (me_tup (ma_cons (me_var (pv 2)) (ma_cons (me_op or_addA om_addA (me_op or_addA om_addA (me_slA rfl sm_slA (me_var (pv 3)) mo_none (mo_some (me_var (pv 4)))) (me_tup (ma_cons (me_tup (ma_cons (me_var (pv 8)) (ma_cons (me_var (pv 6)) ma_nil))) ma_nil))) (me_slA rfl sm_slA (me_var (pv 3)) (mo_some (me_op or_addA om_addA (me_var (pv 4)) me_int)) mo_none)) ma_nil))))))) mss_nil)))) (mss_one (ms_ret (me_var (pv 0))))))
theorem ok_taken_out (T : Txt K mg A w) (n : Nat) : FnOk P w K mg base CX0 (22 + n) A.a_taken_out A.fd_taken_out ["layout", "pane"] (sp0 (cx K A) 2 (d_taken_out n)) := fn_gz (raw_taken_out T n) (gz_taken_out n)
theorem raw_without (T : Txt K mg A w) : FnOk P w K mg base CX0 43 A.a_without A.fd_without ["layout", "width", "height", "pane"] (sp0 (cx K A) 4 r_without) :=
  fn_ok (N := ["layout", "width", "height", "pane"]) T.F_without sc_without rfl rfl fun cdv A1 outer sh H E hr => (mss_one (ms_ret (me_call (ok_fitted T 20) (hr.mono (by first | decide | omega | (simp only [Nat.add_eq]; omega))) rfl T.g_fitted T.F_fitted.kp T.b_fitted rfl (ma_cons (me_call (ok_taken_out T 20) (hr.mono (by first | decide | omega | (simp only [Nat.add_eq]; omega))) rfl T.g_taken_out T.F_taken_out.kp T.b_taken_out rfl (ma_cons (me_call (ok_fitted T 20) (hr.mono (by first | decide | omega | (simp only [Nat.add_eq]; omega))) rfl T.g_fitted T.F_fitted.kp T.b_fitted rfl (ma_cons (me_var (pv 0)) (ma_cons (me_var (pv 1)) (ma_cons (me_var (pv 2)) ma_nil)))) (ma_cons (me_var (pv 3)) ma_nil))) (ma_cons (me_var (pv 1)) (ma_cons (me_var (pv 2)) ma_nil))))))
theorem ok_without (T : Txt K mg A w) : FnOk P w K mg base CX0 43 A.a_without A.fd_without ["layout", "width", "height", "pane"] (sp0 (cx K A) 4 d_without) := fn_gz (raw_without T) gz_without
theorem raw__law_step (T : Txt K mg A w) : FnOk P w K mg base CX0 47 A.a__law_step A.fd__law_step ["_law_layout", "_law_w", "_law_h", "_law_cell_here", "_law_new"] (sp0 (cx K A) 5 r__law_step) :=
  fn_ok (N := ["_law_layout", "_law_w", "_law_h", "_law_cell_here", "_law_new", "_law_known", "_law_pane", "_law_way", "_law_kind", "_law_one"]) T.F__law_step sc__law_step rfl rfl fun cdv A1 outer sh H E hr => (mss_cons (ms_set (i := 5) sc__law_step.nd rfl (Or.inl rfl) (me_call (ok_panes T 20) (hr.mono (by first | decide | omega | (simp only [Nat.add_eq]; omega))) rfl T.g_panes T.F_panes.kp T.b_panes rfl (ma_cons (me_var (pv 0)) ma_nil))) (mss_cons (ms_set (i := 6) sc__law_step.nd rfl (Or.inr rfl) (me_ix rfl (me_var (pv 5)) (me_op op_mod om_mod (me_var (pv 3)) (me_callB call_len_seq cm_len rfl T.n_len (by decide +kernel) (ma_cons (me_var (pv 5)) ma_nil))))) (mss_cons (ms_set (i := 7) sc__law_step.nd rfl (Or.inl rfl) (me_ix rfl (me_fl (ma_cons me_str (ma_cons me_str ma_nil))) (me_op op_mod om_mod (me_op op_fdiv om_fdiv (me_var (pv 3)) me_int) me_int))) (mss_cons (ms_set (i := 8) sc__law_step.nd rfl (Or.inl rfl) (me_op op_mod om_mod (me_op op_fdiv om_fdiv (me_var (pv 3)) me_int) me_int)) (mss_cons (ms_if (mt_cmp op_lt om_lt (me_var (pv 8)) me_int (nomark _)) (mss_one (ms_try_only rfl rfl ⟨rfl, by decide, .inl T.xg_NoRoom⟩ (fun cc Ac hA => xm_of T.xb_NoRoom T.xi_NoRoom T.xt_NoRoom (T.xs_NoRoom cc Ac hA)) (fun Wx pn xe tk => (mssw_one (msw_ret (mew_tup (mew_call tk (ok_divided T) (hr.mono (by first | decide | omega | (simp only [Nat.add_eq]; omega))) rfl T.g_divided T.F_divided.kp T.b_divided rfl (ma_cons (me_var (pv 0)) (ma_cons (me_var (pv 1)) (ma_cons (me_var (pv 2)) (ma_cons (me_var (pv 6)) (ma_cons (me_var (pv 7)) (ma_cons (me_var (pv 4)) ma_nil))))))) (ma_cons (me_op or_add om_add (me_var (pv 5)) (me_fl (ma_cons (me_var (pv 4)) ma_nil))) ma_nil))))) (fun a pn => (mss_one (ms_ret (me_tup (ma_cons (me_var (pv 0)) (ma_cons (me_var (pv 5)) ma_nil)))))))) mss_nil) (mss_cons (ms_if (mt_w (mw_or (mt_cmp (op_eqD hr.units) om_eq (me_var (pv 8)) me_int (nomark _)) (mw_or1 (mt_cmp (op_eqD hr.units) om_eq (me_callB call_len_seq cm_len rfl T.n_len (by decide +kernel) (ma_cons (me_var (pv 5)) ma_nil)) me_int (nomark _))))) (mss_one (ms_ret (me_tup (ma_cons (me_call (ok_moved T) (hr.mono (by first | decide | omega | (simp only [Nat.add_eq]; omega))) rfl T.g_moved T.F_moved.kp T.b_moved rfl (ma_cons (me_var (pv 0)) (ma_cons (me_var (pv 1)) (ma_cons (me_var (pv 2)) (ma_cons (me_var (pv 6)) (ma_cons (me_var (pv 7)) (ma_cons (me_op op_sub om_sub (me_op op_mod om_mod (me_op op_fdiv om_fdiv (me_var (pv 3)) me_int) me_int) me_int) ma_nil))))))) (ma_cons (me_var (pv 5)) ma_nil))))) mss_nil) (mss_one (ms_ret (me_tup (ma_cons (me_call (ok_without T) (hr.mono (by first | decide | omega | (simp only [Nat.add_eq]; omega))) rfl T.g_without T.F_without.kp T.b_without rfl (ma_cons (me_var (pv 0)) (ma_cons (me_var (pv 1)) (ma_cons (me_var (pv 2)) (ma_cons (me_var (pv 6)) ma_nil))))) (ma_cons (me_lc (ownP := [("_law_one", 9)]) (ct_name (i := 9) (by decide)) rfl sc__law_step.nd (mi_seq rfl (me_var (pv 5))) (blkOk_by (own := [("_law_one", 9)]) (N := ["_law_layout", "_law_w", "_law_h", "_law_cell_here", "_law_new", "_law_known", "_law_pane", "_law_way", "_law_kind", "_law_one"]) (sc := defScope s__law_step) (by decide +kernel)) (fun _ _ _ _ _ => pg_name (i := 9) sc__law_step.nd rfl (Or.inl rfl)) (fun _ _ _ _ _ => (mts_one (mt_cmp (op_neD hr.units) om_ne (me_var (pv 9)) (me_var (pv 6)) (nomark _)))) (fun _ _ _ _ _ => (me_var (pv 9)))) ma_nil)))))))))))
theorem ok__law_step (T : Txt K mg A w) : FnOk P w K mg base CX0 47 A.a__law_step A.fd__law_step ["_law_layout", "_law_w", "_law_h", "_law_cell_here", "_law_new"] (sp0 (cx K A) 5 d__law_step) := raw__law_step T
theorem raw_law (T : Txt K mg A w) : FnOk P w K mg base CX0 48 A.a_law A.fd_law ["_law_script"] (sp0 (cx K A) 1 r_law) :=
  fn_ok (N := ["_law_script", "_law_w", "_law_h", "_law_layout", "_law_new", "_law_cell_here", "_law_known", "_law_told", "_law_low", "_law_sheet_here", "_law_covered", "_law_box"]) T.F_law sc_law rfl rfl fun cdv A1 outer sh H E hr => (mss_cons (ms_set (i := 1) sc_law.nd rfl (Or.inl rfl) (me_op or_add om_add me_int (me_op op_mod om_mod (me_call (ok__law_cell T) (hr.mono (by first | decide | omega | (simp only [Nat.add_eq]; omega))) rfl T.g__law_cell T.F__law_cell.kp T.b__law_cell rfl (ma_cons (me_var (pv 0)) (ma_cons me_int ma_nil))) me_int))) (mss_cons (ms_set (i := 2) sc_law.nd rfl (Or.inl rfl) (me_op or_add om_add me_int (me_op op_mod om_mod (me_op op_fdiv om_fdiv (me_call (ok__law_cell T) (hr.mono (by first | decide | omega | (simp only [Nat.add_eq]; omega))) rfl T.g__law_cell T.F__law_cell.kp T.b__law_cell rfl (ma_cons (me_var (pv 0)) (ma_cons me_int ma_nil))) me_int) me_int))) (mss_cons (ms_set (i := 3) sc_law.nd rfl (Or.inl rfl) me_int) (mss_cons (ms_set (i := 4) sc_law.nd rfl (Or.inl rfl) me_int) (mss_cons (ms_for PassesOwn.never rfl (mi_seq rfl (me_sl rfl sm_sl (me_var (pv 0)) (mo_some me_int) (mo_some me_int))) (mg_name (i := 5) sc_law.nd rfl (Or.inl rfl)) (mss_cons (ms_if (mt_cmp (op_eqD hr.units) om_eq (me_op op_mod om_mod (me_op op_fdiv om_fdiv (me_callTy call_int1 cm_int rfl T.n_int (by decide +kernel) (ma_cons (me_var (pv 5)) ma_nil)) me_int) me_int) me_int (nomark _)) (mss_cons (ms_set (i := 1) sc_law.nd rfl (Or.inl rfl) (me_op or_add om_add me_int (me_op op_mod om_mod (me_op op_fdiv om_fdiv (me_callTy call_int1 cm_int rfl T.n_int (by decide +kernel) (ma_cons (me_var (pv 5)) ma_nil)) me_int) me_int))) (mss_one (ms_set (i := 2) sc_law.nd rfl (Or.inl rfl) (me_op or_add om_add me_int (me_op op_mod om_mod (me_op op_fdiv om_fdiv (me_callTy call_int1 cm_int rfl T.n_int (by decide +kernel) (ma_cons (me_var (pv 5)) ma_nil)) me_int) me_int))))) mss_nil) (mss_cons (ms_set (i := 4) sc_law.nd rfl (Or.inl rfl) (me_op or_add om_add (me_var (pv 4)) me_int)) (mss_cons (ms_asg (me_call (ok__law_step T) (hr.mono (by first | decide | omega | (simp only [Nat.add_eq]; omega))) rfl T.g__law_step T.F__law_step.kp T.b__law_step rfl (ma_cons (me_var (pv 3)) (ma_cons (me_var (pv 1)) (ma_cons (me_var (pv 2)) (ma_cons (me_callTy call_int1 cm_int rfl T.n_int (by decide +kernel) (ma_cons (me_var (pv 5)) ma_nil)) (ma_cons (me_var (pv 4)) ma_nil)))))) (mg_tup rfl rfl (mgs_cons (mg_name (i := 3) sc_law.nd rfl (Or.inl rfl)) (mgs_cons (mg_name (i := 6) sc_law.nd rfl (Or.inl rfl)) mgs_nil)))) (mss_cons (ms_if (mt_cmp (op_neD hr.units) om_ne (me_callB cr_sortedI cm_sorted rfl T.n_sorted (by decide +kernel) (ma_cons (me_call (ok_panes T 20) (hr.mono (by first | decide | omega | (simp only [Nat.add_eq]; omega))) rfl T.g_panes T.F_panes.kp T.b_panes rfl (ma_cons (me_var (pv 3)) ma_nil)) ma_nil)) (me_callB cr_sortedI cm_sorted rfl T.n_sorted (by decide +kernel) (ma_cons (me_var (pv 6)) ma_nil)) (nomark _)) (mss_one (ms_ret me_bl)) mss_nil) (mss_cons (ms_set (i := 7) sc_law.nd rfl (Or.inl rfl) (me_call (ok_boxes T) (hr.mono (by first | decide | omega | (simp only [Nat.add_eq]; omega))) rfl T.g_boxes T.F_boxes.kp T.b_boxes rfl (ma_cons (me_var (pv 3)) (ma_cons (me_var (pv 1)) (ma_cons (me_var (pv 2)) ma_nil))))) (mss_cons (ms_set (i := 8) sc_law.nd rfl (Or.inl rfl) (me_call (ok_least T 20) (hr.mono (by first | decide | omega | (simp only [Nat.add_eq]; omega))) rfl T.g_least T.F_least.kp T.b_least rfl (ma_cons (me_var (pv 3)) ma_nil))) (mss_cons (ms_set (i := 9) sc_law.nd rfl (Or.inl rfl) (me_call (ok__law_sheet T) (hr.mono (by first | decide | omega | (simp only [Nat.add_eq]; omega))) rfl T.g__law_sheet T.F__law_sheet.kp T.b__law_sheet rfl (ma_cons (me_var (pv 7)) (ma_cons (me_callB (cr_maxU rfl) cm_max rfl T.n_max (by decide +kernel) (ma_cons (me_var (pv 1)) (ma_cons (me_ix rfl (me_var (pv 8)) me_int) ma_nil))) (ma_cons (me_callB (cr_maxU rfl) cm_max rfl T.n_max (by decide +kernel) (ma_cons (me_var (pv 2)) (ma_cons (me_ix rfl (me_var (pv 8)) me_int) ma_nil))) ma_nil))))) (mss_cons (ms_if (mt_w (mw_or (mt_isN (me_var (pv 9))) (mw_or1 (mt_cmp (op_neD hr.units) om_ne (me_lc (ownP := [("_law_box", 11)]) (ct_name (i := 11) (by decide)) rfl sc_law.nd (mi_seq rfl (me_var (pv 7))) (blkOk_by (own := [("_law_box", 11)]) (N := ["_law_script", "_law_w", "_law_h", "_law_layout", "_law_new", "_law_cell_here", "_law_known", "_law_told", "_law_low", "_law_sheet_here", "_law_covered", "_law_box"]) (sc := defScope s_law) (by decide +kernel)) (fun _ _ _ _ _ => pg_name (i := 11) sc_law.nd rfl (Or.inl rfl)) (fun _ _ _ _ _ => mts_nil) (fun _ _ _ _ _ => (me_ix rfl (me_var (pv 11)) me_int))) (me_call (ok_panes T 20) (hr.mono (by first | decide | omega | (simp only [Nat.add_eq]; omega))) rfl T.g_panes T.F_panes.kp T.b_panes rfl (ma_cons (me_var (pv 3)) ma_nil)) (nomark _))))) (mss_one (ms_ret me_bl)) mss_nil) (mss_cons (ms_if (mt_not (mt_truth rfl (me_call (ok__law_borders_right T) (hr.mono (by first | decide | omega | (simp only [Nat.add_eq]; omega))) rfl T.g__law_borders_right T.F__law_borders_right.kp T.b__law_borders_right rfl (ma_cons (me_var (pv 9)) (ma_cons (me_callB (cr_maxU rfl) cm_max rfl T.n_max (by decide +kernel) (ma_cons (me_var (pv 1)) (ma_cons (me_ix rfl (me_var (pv 8)) me_int) ma_nil))) (ma_cons (me_callB (cr_maxU rfl) cm_max rfl T.n_max (by decide +kernel) (ma_cons (me_var (pv 2)) (ma_cons (me_ix rfl (me_var (pv 8)) me_int) ma_nil))) ma_nil)))))) (mss_one (ms_ret me_bl)) mss_nil) (mss_cons (ms_set (i := 10) sc_law.nd rfl (Or.inl rfl) (me_callB (cr_sum rfl) cm_sum rfl T.n_sum (by decide +kernel) (ma_cons (me_lc (ownP := [("_law_box", 11)]) (ct_name (i := 11) (by decide)) rfl sc_law.nd (mi_seq rfl (me_var (pv 7))) (blkOk_by (own := [("_law_box", 11)]) (N := ["_law_script", "_law_w", "_law_h", "_law_layout", "_law_new", "_law_cell_here", "_law_known", "_law_told", "_law_low", "_law_sheet_here", "_law_covered", "_law_box"]) (sc := defScope s_law) (by decide +kernel)) (fun _ _ _ _ _ => pg_name (i := 11) sc_law.nd rfl (Or.inl rfl)) (fun _ _ _ _ _ => mts_nil) (fun _ _ _ _ _ => (me_op or_mul om_mul (me_ix rfl (me_var (pv 11)) me_int) (me_ix rfl (me_var (pv 11)) me_int)))) ma_nil))) (mss_one (ms_if (mt_w (mw_and (mt_cmp (op_eqD hr.units) om_eq (me_callB call_len_seq cm_len rfl T.n_len (by decide +kernel) (ma_cons (me_var (pv 7)) ma_nil)) me_int (nomark _)) (mw_and1 (mt_cmp (op_neD hr.units) om_ne (me_var (pv 10)) (me_op or_mul om_mul (me_callB (cr_maxU rfl) cm_max rfl T.n_max (by decide +kernel) (ma_cons (me_var (pv 1)) (ma_cons (me_ix rfl (me_var (pv 8)) me_int) ma_nil))) (me_callB (cr_maxU rfl) cm_max rfl T.n_max (by decide +kernel) (ma_cons (me_var (pv 2)) (ma_cons (me_ix rfl (me_var (pv 8)) me_int) ma_nil)))) (nomark _))))) (mss_one (ms_ret me_bl)) mss_nil))))))))))))) (mss_one (ms_ret (me_cmp (op_eqD hr.units) om_eq (me_call (ok_fitted T 20) (hr.mono (by first | decide | omega | (simp only [Nat.add_eq]; omega))) rfl T.g_fitted T.F_fitted.kp T.b_fitted rfl (ma_cons (me_var (pv 3)) (ma_cons (me_var (pv 1)) (ma_cons (me_var (pv 2)) ma_nil)))) (me_call (ok_fitted T 20) (hr.mono (by first | decide | omega | (simp only [Nat.add_eq]; omega))) rfl T.g_fitted T.F_fitted.kp T.b_fitted rfl (ma_cons (me_call (ok_fitted T 20) (hr.mono (by first | decide | omega | (simp only [Nat.add_eq]; omega))) rfl T.g_fitted T.F_fitted.kp T.b_fitted rfl (ma_cons (me_var (pv 3)) (ma_cons (me_var (pv 1)) (ma_cons (me_var (pv 2)) ma_nil)))) (ma_cons (me_var (pv 1)) (ma_cons (me_var (pv 2)) ma_nil)))) (nomark _)))))))))
theorem ok_law (T : Txt K mg A w) : FnOk P w K mg base CX0 48 A.a_law A.fd_law ["_law_script"] (sp0 (cx K A) 1 d_law) := raw_law T
end
end Kx

namespace Kx
open PySem L2 ML
theorem all_mk {l : PySem.W.OpenLaw} {w : World} {K : PySem.W.Frag} {h : Heap} {mg : Str → Option Value} {fa : Addr} (X : K.In h) (G : h.Ns mainGlobals mg) (hfa : mg "law" = some (.ref fa))
  {f0 : Addr} {od0 an0 : Option Addr} {sl0 : Array (Option Value)} {oc0 kV0 dc0 pm0 cd0 ct0 : Value}
  {f1 : Addr} {od1 an1 : Option Addr} {sl1 : Array (Option Value)} {oc1 kV1 dc1 pm1 cd1 ct1 : Value}
  {f2 : Addr} {od2 an2 : Option Addr} {sl2 : Array (Option Value)} {oc2 kV2 dc2 pm2 cd2 ct2 : Value}
  {f3 : Addr} {od3 an3 : Option Addr} {sl3 : Array (Option Value)} {oc3 kV3 dc3 pm3 cd3 ct3 : Value}
  {f4 : Addr} {od4 an4 : Option Addr} {sl4 : Array (Option Value)} {oc4 kV4 dc4 pm4 cd4 ct4 : Value}
  {f5 : Addr} {od5 an5 : Option Addr} {sl5 : Array (Option Value)} {oc5 kV5 dc5 pm5 cd5 ct5 : Value}
  {f6 : Addr} {od6 an6 : Option Addr} {sl6 : Array (Option Value)} {oc6 kV6 dc6 pm6 cd6 ct6 : Value}
  {f7 : Addr} {od7 an7 : Option Addr} {sl7 : Array (Option Value)} {oc7 kV7 dc7 pm7 cd7 ct7 : Value}
  {f8 : Addr} {od8 an8 : Option Addr} {sl8 : Array (Option Value)} {oc8 kV8 dc8 pm8 cd8 ct8 : Value}
  {f9 : Addr} {od9 an9 : Option Addr} {sl9 : Array (Option Value)} {oc9 kV9 dc9 pm9 cd9 ct9 : Value}
  {f10 : Addr} {od10 an10 : Option Addr} {sl10 : Array (Option Value)} {oc10 kV10 dc10 pm10 cd10 ct10 : Value}
  {f11 : Addr} {od11 an11 : Option Addr} {sl11 : Array (Option Value)} {oc11 kV11 dc11 pm11 cd11 ct11 : Value}
  {f12 : Addr} {od12 an12 : Option Addr} {sl12 : Array (Option Value)} {oc12 kV12 dc12 pm12 cd12 ct12 : Value}
  {f13 : Addr} {od13 an13 : Option Addr} {sl13 : Array (Option Value)} {oc13 kV13 dc13 pm13 cd13 ct13 : Value}
  {f14 : Addr} {od14 an14 : Option Addr} {sl14 : Array (Option Value)} {oc14 kV14 dc14 pm14 cd14 ct14 : Value}
  {f15 : Addr} {od15 an15 : Option Addr} {sl15 : Array (Option Value)} {oc15 kV15 dc15 pm15 cd15 ct15 : Value}
  {f16 : Addr} {od16 an16 : Option Addr} {sl16 : Array (Option Value)} {oc16 kV16 dc16 pm16 cd16 ct16 : Value}
  {f17 : Addr} {od17 an17 : Option Addr} {sl17 : Array (Option Value)} {oc17 kV17 dc17 pm17 cd17 ct17 : Value}
  {f18 : Addr} {od18 an18 : Option Addr} {sl18 : Array (Option Value)} {oc18 kV18 dc18 pm18 cd18 ct18 : Value}
  {f19 : Addr} {od19 an19 : Option Addr} {sl19 : Array (Option Value)} {oc19 kV19 dc19 pm19 cd19 ct19 : Value}
  {f20 : Addr} {od20 an20 : Option Addr} {sl20 : Array (Option Value)} {oc20 kV20 dc20 pm20 cd20 ct20 : Value}
  {f21 : Addr} {od21 an21 : Option Addr} {sl21 : Array (Option Value)} {oc21 kV21 dc21 pm21 cd21 ct21 : Value}
  {t_BESIDE : Tok}
  {tk0_0 : Tok}
  {tk0_1 : Tok}
  {q0 : Addr} {qd0 : Option Addr} {qn0 : Nat} {qs0 : Array (Option Value)}
  {hh1_0 : Int} {th1_0 tv1_0 : Tok}
  {hh1_1 : Int} {th1_1 tv1_1 : Tok}
  {q1 : Addr} {qn1 : Nat}
  {XNoRoom : Addr}
  (a0 : PySem.W.nsIn K mainGlobals "_law_borders_right" = some (some (.ref f0)))
  (l0 : K.lookup f0 = some ⟨oc0, od0, .func (PySem.W.fnOf "_law_borders_right" "_law_borders_right" (defArgs s__law_borders_right) (defBody s__law_borders_right) (defScope s__law_borders_right) .none kV0 dc0 pm0 an0 cd0 ct0), sl0⟩)
  (c0 : PySem.W.codeIn K cd0 "_law_borders_right" = true)
  (k0 : PySem.W.keepIn K (.ref f0) = true)
  (a1 : PySem.W.nsIn K mainGlobals "_law_cell" = some (some (.ref f1)))
  (l1 : K.lookup f1 = some ⟨oc1, od1, .func (PySem.W.fnOf "_law_cell" "_law_cell" (defArgs s__law_cell) (defBody s__law_cell) (defScope s__law_cell) .none kV1 dc1 pm1 an1 cd1 ct1), sl1⟩)
  (c1 : PySem.W.codeIn K cd1 "_law_cell" = true)
  (k1 : PySem.W.keepIn K (.ref f1) = true)
  (a2 : PySem.W.nsIn K mainGlobals "_law_sheet" = some (some (.ref f2)))
  (l2 : K.lookup f2 = some ⟨oc2, od2, .func (PySem.W.fnOf "_law_sheet" "_law_sheet" (defArgs s__law_sheet) (defBody s__law_sheet) (defScope s__law_sheet) .none kV2 dc2 pm2 an2 cd2 ct2), sl2⟩)
  (c2 : PySem.W.codeIn K cd2 "_law_sheet" = true)
  (k2 : PySem.W.keepIn K (.ref f2) = true)
  (a3 : PySem.W.nsIn K mainGlobals "axis_of" = some (some (.ref f3)))
  (l3 : K.lookup f3 = some ⟨oc3, od3, .func (PySem.W.fnOf "axis_of" "axis_of" (defArgs s_axis_of) (defBody s_axis_of) (defScope s_axis_of) .none kV3 dc3 pm3 an3 cd3 ct3), sl3⟩)
  (c3 : PySem.W.codeIn K cd3 "axis_of" = true)
  (k3 : PySem.W.keepIn K (.ref f3) = true)
  (a4 : PySem.W.nsIn K mainGlobals "least" = some (some (.ref f4)))
  (l4 : K.lookup f4 = some ⟨oc4, od4, .func (PySem.W.fnOf "least" "least" (defArgs s_least) (defBody s_least) (defScope s_least) .none kV4 dc4 pm4 an4 cd4 ct4), sl4⟩)
  (c4 : PySem.W.codeIn K cd4 "least" = true)
  (k4 : PySem.W.keepIn K (.ref f4) = true)
  (a5 : PySem.W.nsIn K mainGlobals "share" = some (some (.ref f5)))
  (l5 : K.lookup f5 = some ⟨oc5, od5, .func (PySem.W.fnOf "share" "share" (defArgs s_share) (defBody s_share) (defScope s_share) .none kV5 dc5 pm5 an5 cd5 ct5), sl5⟩)
  (c5 : PySem.W.codeIn K cd5 "share" = true)
  (k5 : PySem.W.keepIn K (.ref f5) = true)
  (a6 : PySem.W.nsIn K mainGlobals "fitted" = some (some (.ref f6)))
  (l6 : K.lookup f6 = some ⟨oc6, od6, .func (PySem.W.fnOf "fitted" "fitted" (defArgs s_fitted) (defBody s_fitted) (defScope s_fitted) .none kV6 dc6 pm6 an6 cd6 ct6), sl6⟩)
  (c6 : PySem.W.codeIn K cd6 "fitted" = true)
  (k6 : PySem.W.keepIn K (.ref f6) = true)
  (a7 : PySem.W.nsIn K mainGlobals "placed" = some (some (.ref f7)))
  (l7 : K.lookup f7 = some ⟨oc7, od7, .func (PySem.W.fnOf "placed" "placed" (defArgs s_placed) (defBody s_placed) (defScope s_placed) .none kV7 dc7 pm7 an7 cd7 ct7), sl7⟩)
  (c7 : PySem.W.codeIn K cd7 "placed" = true)
  (k7 : PySem.W.keepIn K (.ref f7) = true)
  (a8 : PySem.W.nsIn K mainGlobals "placed_whole" = some (some (.ref f8)))
  (l8 : K.lookup f8 = some ⟨oc8, od8, .func (PySem.W.fnOf "placed_whole" "placed_whole" (defArgs s_placed_whole) (defBody s_placed_whole) (defScope s_placed_whole) .none kV8 dc8 pm8 an8 cd8 ct8), sl8⟩)
  (c8 : PySem.W.codeIn K cd8 "placed_whole" = true)
  (k8 : PySem.W.keepIn K (.ref f8) = true)
  (a9 : PySem.W.nsIn K mainGlobals "boxes" = some (some (.ref f9)))
  (l9 : K.lookup f9 = some ⟨oc9, od9, .func (PySem.W.fnOf "boxes" "boxes" (defArgs s_boxes) (defBody s_boxes) (defScope s_boxes) .none kV9 dc9 pm9 an9 cd9 ct9), sl9⟩)
  (c9 : PySem.W.codeIn K cd9 "boxes" = true)
  (k9 : PySem.W.keepIn K (.ref f9) = true)
  (a10 : PySem.W.nsIn K mainGlobals "size_of" = some (some (.ref f10)))
  (l10 : K.lookup f10 = some ⟨oc10, od10, .func (PySem.W.fnOf "size_of" "size_of" (defArgs s_size_of) (defBody s_size_of) (defScope s_size_of) .none kV10 dc10 pm10 an10 cd10 ct10), sl10⟩)
  (c10 : PySem.W.codeIn K cd10 "size_of" = true)
  (k10 : PySem.W.keepIn K (.ref f10) = true)
  (a11 : PySem.W.nsIn K mainGlobals "panes" = some (some (.ref f11)))
  (l11 : K.lookup f11 = some ⟨oc11, od11, .func (PySem.W.fnOf "panes" "panes" (defArgs s_panes) (defBody s_panes) (defScope s_panes) .none kV11 dc11 pm11 an11 cd11 ct11), sl11⟩)
  (c11 : PySem.W.codeIn K cd11 "panes" = true)
  (k11 : PySem.W.keepIn K (.ref f11) = true)
  (a12 : PySem.W.nsIn K mainGlobals "with_new" = some (some (.ref f12)))
  (l12 : K.lookup f12 = some ⟨oc12, od12, .func (PySem.W.fnOf "with_new" "with_new" (defArgs s_with_new) (defBody s_with_new) (defScope s_with_new) .none kV12 dc12 pm12 an12 cd12 ct12), sl12⟩)
  (c12 : PySem.W.codeIn K cd12 "with_new" = true)
  (k12 : PySem.W.keepIn K (.ref f12) = true)
  (a13 : PySem.W.nsIn K mainGlobals "divided" = some (some (.ref f13)))
  (l13 : K.lookup f13 = some ⟨oc13, od13, .func (PySem.W.fnOf "divided" "divided" (defArgs s_divided) (defBody s_divided) (defScope s_divided) .none kV13 dc13 pm13 an13 cd13 ct13), sl13⟩)
  (c13 : PySem.W.codeIn K cd13 "divided" = true)
  (k13 : PySem.W.keepIn K (.ref f13) = true)
  (a14 : PySem.W.nsIn K mainGlobals "shifted" = some (some (.ref f14)))
  (l14 : K.lookup f14 = some ⟨oc14, od14, .func (PySem.W.fnOf "shifted" "shifted" (defArgs s_shifted) (defBody s_shifted) (defScope s_shifted) .none kV14 dc14 pm14 an14 cd14 ct14), sl14⟩)
  (c14 : PySem.W.codeIn K cd14 "shifted" = true)
  (k14 : PySem.W.keepIn K (.ref f14) = true)
  (a15 : PySem.W.nsIn K mainGlobals "with_border" = some (some (.ref f15)))
  (l15 : K.lookup f15 = some ⟨oc15, od15, .func (PySem.W.fnOf "with_border" "with_border" (defArgs s_with_border) (defBody s_with_border) (defScope s_with_border) .none kV15 dc15 pm15 an15 cd15 ct15), sl15⟩)
  (c15 : PySem.W.codeIn K cd15 "with_border" = true)
  (k15 : PySem.W.keepIn K (.ref f15) = true)
  (a16 : PySem.W.nsIn K mainGlobals "moved" = some (some (.ref f16)))
  (l16 : K.lookup f16 = some ⟨oc16, od16, .func (PySem.W.fnOf "moved" "moved" (defArgs s_moved) (defBody s_moved) (defScope s_moved) .none kV16 dc16 pm16 an16 cd16 ct16), sl16⟩)
  (c16 : PySem.W.codeIn K cd16 "moved" = true)
  (k16 : PySem.W.keepIn K (.ref f16) = true)
  (a17 : PySem.W.nsIn K mainGlobals "dropped" = some (some (.ref f17)))
  (l17 : K.lookup f17 = some ⟨oc17, od17, .func (PySem.W.fnOf "dropped" "dropped" (defArgs s_dropped) (defBody s_dropped) (defScope s_dropped) .none kV17 dc17 pm17 an17 cd17 ct17), sl17⟩)
  (c17 : PySem.W.codeIn K cd17 "dropped" = true)
  (k17 : PySem.W.keepIn K (.ref f17) = true)
  (a18 : PySem.W.nsIn K mainGlobals "taken_out" = some (some (.ref f18)))
  (l18 : K.lookup f18 = some ⟨oc18, od18, .func (PySem.W.fnOf "taken_out" "taken_out" (defArgs s_taken_out) (defBody s_taken_out) (defScope s_taken_out) .none kV18 dc18 pm18 an18 cd18 ct18), sl18⟩)
  (c18 : PySem.W.codeIn K cd18 "taken_out" = true)
  (k18 : PySem.W.keepIn K (.ref f18) = true)
  (a19 : PySem.W.nsIn K mainGlobals "without" = some (some (.ref f19)))
  (l19 : K.lookup f19 = some ⟨oc19, od19, .func (PySem.W.fnOf "without" "without" (defArgs s_without) (defBody s_without) (defScope s_without) .none kV19 dc19 pm19 an19 cd19 ct19), sl19⟩)
  (c19 : PySem.W.codeIn K cd19 "without" = true)
  (k19 : PySem.W.keepIn K (.ref f19) = true)
  (a20 : PySem.W.nsIn K mainGlobals "_law_step" = some (some (.ref f20)))
  (l20 : K.lookup f20 = some ⟨oc20, od20, .func (PySem.W.fnOf "_law_step" "_law_step" (defArgs s__law_step) (defBody s__law_step) (defScope s__law_step) .none kV20 dc20 pm20 an20 cd20 ct20), sl20⟩)
  (c20 : PySem.W.codeIn K cd20 "_law_step" = true)
  (k20 : PySem.W.keepIn K (.ref f20) = true)
  (a21 : PySem.W.nsIn K mainGlobals "law" = some (some (.ref f21)))
  (l21 : K.lookup f21 = some ⟨oc21, od21, .func (PySem.W.fnOf "law" "law" (defArgs s_law) (defBody s_law) (defScope s_law) .none kV21 dc21 pm21 an21 cd21 ct21), sl21⟩)
  (c21 : PySem.W.codeIn K cd21 "law" = true)
  (k21 : PySem.W.keepIn K (.ref f21) = true)
  (z_enumerate : PySem.W.nsIn K mainGlobals "enumerate" = some none)
  (z_int : PySem.W.nsIn K mainGlobals "int" = some none)
  (z_isinstance : PySem.W.nsIn K mainGlobals "isinstance" = some none)
  (z_len : PySem.W.nsIn K mainGlobals "len" = some none)
  (z_max : PySem.W.nsIn K mainGlobals "max" = some none)
  (z_min : PySem.W.nsIn K mainGlobals "min" = some none)
  (z_range : PySem.W.nsIn K mainGlobals "range" = some none)
  (z_sorted : PySem.W.nsIn K mainGlobals "sorted" = some none)
  (z_sum : PySem.W.nsIn K mainGlobals "sum" = some none)
  (z_tuple : PySem.W.nsIn K mainGlobals "tuple" = some none)
  (z_zip : PySem.W.nsIn K mainGlobals "zip" = some none)
  (v_BESIDE : PySem.W.nsIn K mainGlobals "BESIDE" = some (some (.str "beside" t_BESIDE)))
  (gq_LEAST_PANE : PySem.W.nsIn K mainGlobals "LEAST_PANE" = some (some (.ref q0)))
  (q_0 : K.lookup q0 = some ⟨.type "tuple", qd0, .seq #[.int 2 tk0_0, .int 1 tk0_1] qn0, qs0⟩)
  (gd_LEAST_SPLIT : PySem.W.nsIn K mainGlobals "LEAST_SPLIT" = some (some (.ref q1)))
  (q_1 : K.lookup q1 = some ⟨.type "dict", none, .dict #[⟨hh1_0, .str "beside" th1_0, .int 5 tv1_0⟩, ⟨hh1_1, .str "below" th1_1, .int 3 tv1_1⟩] qn1, #[]⟩)
  (hk1_0 : hh1_0 = PyData.keyHash w.params "beside")
  (nk1_0 : PySem.W.nsIn K q1 "beside" = some (some (.int 5 tv1_0)))
  (hk1_1 : hh1_1 = PyData.keyHash w.params "below")
  (nk1_1 : PySem.W.nsIn K q1 "below" = some (some (.int 3 tv1_1)))
  (xg_NoRoom : PySem.W.nsIn K mainGlobals "NoRoom" = some (some (.ref XNoRoom)))
  (xi_NoRoom : PySem.W.isClsIn K XNoRoom = true)
  (xt_NoRoom : PySem.W.typeIn K (.ref XNoRoom) = some (.type "type"))
  (xb_NoRoom : PySem.W.subIn K (.ref XNoRoom) (.type "BaseException") = some true)
  (xf_NoRoom : PySem.W.subIn K (.ref XNoRoom) (.ref XNoRoom) = some true)
  (xs0_NoRoom : PySem.W.subIn K (.ref XNoRoom) (.ref XNoRoom) = some true)
  (xhg_NoRoom : PySem.W.findIn K (.ref XNoRoom) "__getattribute__" = some (some (.builtin "BaseException.__getattribute__")))
  (xhk_NoRoom : PySem.W.findIn K (.ref XNoRoom) "__getattr__" = some none)
  (xhd_NoRoom : PySem.W.hasDictIn K XNoRoom = true)
  (xha_NoRoom : PySem.W.findIn K (.ref XNoRoom) "__class__" = some (some (.builtin "object.__class__")))
  (xhn_NoRoom : PySem.W.specialIn K (.builtin "object.__class__") "__get__" = some (some (.builtin "getset_descriptor.__get__")))
  (xht_NoRoom : PySem.W.takesIn K (.builtin "object.__class__") = some true)
  (xhm_NoRoom : PySem.W.mroIn K XNoRoom (.type "object") = some true)
  (xe_NoRoom : PySem.W.excIn K XNoRoom [.type "ValueError", .type "Exception", .type "BaseException", .type "object"] "ValueError.__new__" = true)
  (xk_NoRoom : PySem.W.keepIn K (.ref XNoRoom) = true) :
  ∃ fd : FuncData, (∀ (s : Shared) (v : Value), BindsTo s fd ⟨[v], []⟩ [("_law_script", v)]) ∧ ∀ base : Heap, K.In base → base.Ns mainGlobals mg → FnOk l.prog w K mg base CX0 48 fa fd ["_law_script"] (spLaw K) := by
  have e := hfa.symm.trans (PySem.W.mg_of X G a21)
  cases e
  have T : Txt K mg ⟨f0, (PySem.W.fnOf "_law_borders_right" "_law_borders_right" (defArgs s__law_borders_right) (defBody s__law_borders_right) (defScope s__law_borders_right) .none kV0 dc0 pm0 an0 cd0 ct0), f1, (PySem.W.fnOf "_law_cell" "_law_cell" (defArgs s__law_cell) (defBody s__law_cell) (defScope s__law_cell) .none kV1 dc1 pm1 an1 cd1 ct1), f2, (PySem.W.fnOf "_law_sheet" "_law_sheet" (defArgs s__law_sheet) (defBody s__law_sheet) (defScope s__law_sheet) .none kV2 dc2 pm2 an2 cd2 ct2), f3, (PySem.W.fnOf "axis_of" "axis_of" (defArgs s_axis_of) (defBody s_axis_of) (defScope s_axis_of) .none kV3 dc3 pm3 an3 cd3 ct3), f4, (PySem.W.fnOf "least" "least" (defArgs s_least) (defBody s_least) (defScope s_least) .none kV4 dc4 pm4 an4 cd4 ct4), f5, (PySem.W.fnOf "share" "share" (defArgs s_share) (defBody s_share) (defScope s_share) .none kV5 dc5 pm5 an5 cd5 ct5), f6, (PySem.W.fnOf "fitted" "fitted" (defArgs s_fitted) (defBody s_fitted) (defScope s_fitted) .none kV6 dc6 pm6 an6 cd6 ct6), f7, (PySem.W.fnOf "placed" "placed" (defArgs s_placed) (defBody s_placed) (defScope s_placed) .none kV7 dc7 pm7 an7 cd7 ct7), f8, (PySem.W.fnOf "placed_whole" "placed_whole" (defArgs s_placed_whole) (defBody s_placed_whole) (defScope s_placed_whole) .none kV8 dc8 pm8 an8 cd8 ct8), f9, (PySem.W.fnOf "boxes" "boxes" (defArgs s_boxes) (defBody s_boxes) (defScope s_boxes) .none kV9 dc9 pm9 an9 cd9 ct9), f10, (PySem.W.fnOf "size_of" "size_of" (defArgs s_size_of) (defBody s_size_of) (defScope s_size_of) .none kV10 dc10 pm10 an10 cd10 ct10), f11, (PySem.W.fnOf "panes" "panes" (defArgs s_panes) (defBody s_panes) (defScope s_panes) .none kV11 dc11 pm11 an11 cd11 ct11), f12, (PySem.W.fnOf "with_new" "with_new" (defArgs s_with_new) (defBody s_with_new) (defScope s_with_new) .none kV12 dc12 pm12 an12 cd12 ct12), f13, (PySem.W.fnOf "divided" "divided" (defArgs s_divided) (defBody s_divided) (defScope s_divided) .none kV13 dc13 pm13 an13 cd13 ct13), f14, (PySem.W.fnOf "shifted" "shifted" (defArgs s_shifted) (defBody s_shifted) (defScope s_shifted) .none kV14 dc14 pm14 an14 cd14 ct14), f15, (PySem.W.fnOf "with_border" "with_border" (defArgs s_with_border) (defBody s_with_border) (defScope s_with_border) .none kV15 dc15 pm15 an15 cd15 ct15), f16, (PySem.W.fnOf "moved" "moved" (defArgs s_moved) (defBody s_moved) (defScope s_moved) .none kV16 dc16 pm16 an16 cd16 ct16), f17, (PySem.W.fnOf "dropped" "dropped" (defArgs s_dropped) (defBody s_dropped) (defScope s_dropped) .none kV17 dc17 pm17 an17 cd17 ct17), f18, (PySem.W.fnOf "taken_out" "taken_out" (defArgs s_taken_out) (defBody s_taken_out) (defScope s_taken_out) .none kV18 dc18 pm18 an18 cd18 ct18), f19, (PySem.W.fnOf "without" "without" (defArgs s_without) (defBody s_without) (defScope s_without) .none kV19 dc19 pm19 an19 cd19 ct19), f20, (PySem.W.fnOf "_law_step" "_law_step" (defArgs s__law_step) (defBody s__law_step) (defScope s__law_step) .none kV20 dc20 pm20 an20 cd20 ct20), fa, (PySem.W.fnOf "law" "law" (defArgs s_law) (defBody s_law) (defScope s_law) .none kV21 dc21 pm21 an21 cd21 ct21), q0, q1, XNoRoom⟩ w :=
    ⟨fun_mk (st := s__law_borders_right) l0 c0 k0,
     (fun_mk (st := s__law_borders_right) l0 c0 k0).binds (ps := ["_law_sheet_here", "_law_w", "_law_h"]) fun _ _ _ _ _ _ us hl => match us, hl with | [_, _, _], _ => rfl,
     PySem.W.mg_of X G a0,
     fun_mk (st := s__law_cell) l1 c1 k1,
     (fun_mk (st := s__law_cell) l1 c1 k1).binds (ps := ["_law_script", "_law_k"]) fun _ _ _ _ _ _ us hl => match us, hl with | [_, _], _ => rfl,
     PySem.W.mg_of X G a1,
     fun_mk (st := s__law_sheet) l2 c2 k2,
     (fun_mk (st := s__law_sheet) l2 c2 k2).binds (ps := ["_law_told", "_law_w", "_law_h"]) fun _ _ _ _ _ _ us hl => match us, hl with | [_, _, _], _ => rfl,
     PySem.W.mg_of X G a2,
     fun_mk (st := s_axis_of) l3 c3 k3,
     (fun_mk (st := s_axis_of) l3 c3 k3).binds (ps := ["direction"]) fun _ _ _ _ _ _ us hl => match us, hl with | [_], _ => rfl,
     PySem.W.mg_of X G a3,
     fun_mk (st := s_least) l4 c4 k4,
     (fun_mk (st := s_least) l4 c4 k4).binds (ps := ["layout"]) fun _ _ _ _ _ _ us hl => match us, hl with | [_], _ => rfl,
     PySem.W.mg_of X G a4,
     fun_mk (st := s_share) l5 c5 k5,
     (fun_mk (st := s_share) l5 c5 k5).binds (ps := ["total", "smallest", "sizes"]) fun _ _ _ _ _ _ us hl => match us, hl with | [_, _, _], _ => rfl,
     PySem.W.mg_of X G a5,
     fun_mk (st := s_fitted) l6 c6 k6,
     (fun_mk (st := s_fitted) l6 c6 k6).binds (ps := ["layout", "width", "height"]) fun _ _ _ _ _ _ us hl => match us, hl with | [_, _, _], _ => rfl,
     PySem.W.mg_of X G a6,
     fun_mk (st := s_placed) l7 c7 k7,
     (fun_mk (st := s_placed) l7 c7 k7).binds (ps := ["layout", "row", "column", "width", "height"]) fun _ _ _ _ _ _ us hl => match us, hl with | [_, _, _, _, _], _ => rfl,
     PySem.W.mg_of X G a7,
     fun_mk (st := s_placed_whole) l8 c8 k8,
     (fun_mk (st := s_placed_whole) l8 c8 k8).binds (ps := ["layout", "width", "height"]) fun _ _ _ _ _ _ us hl => match us, hl with | [_, _, _], _ => rfl,
     PySem.W.mg_of X G a8,
     fun_mk (st := s_boxes) l9 c9 k9,
     (fun_mk (st := s_boxes) l9 c9 k9).binds (ps := ["layout", "width", "height"]) fun _ _ _ _ _ _ us hl => match us, hl with | [_, _, _], _ => rfl,
     PySem.W.mg_of X G a9,
     fun_mk (st := s_size_of) l10 c10 k10,
     (fun_mk (st := s_size_of) l10 c10 k10).binds (ps := ["layout", "width", "height", "pane", "axis"]) fun _ _ _ _ _ _ us hl => match us, hl with | [_, _, _, _, _], _ => rfl,
     PySem.W.mg_of X G a10,
     fun_mk (st := s_panes) l11 c11 k11,
     (fun_mk (st := s_panes) l11 c11 k11).binds (ps := ["layout"]) fun _ _ _ _ _ _ us hl => match us, hl with | [_], _ => rfl,
     PySem.W.mg_of X G a11,
     fun_mk (st := s_with_new) l12 c12 k12,
     (fun_mk (st := s_with_new) l12 c12 k12).binds (ps := ["layout", "pane", "direction", "new", "size"]) fun _ _ _ _ _ _ us hl => match us, hl with | [_, _, _, _, _], _ => rfl,
     PySem.W.mg_of X G a12,
     fun_mk (st := s_divided) l13 c13 k13,
     (fun_mk (st := s_divided) l13 c13 k13).binds (ps := ["layout", "width", "height", "pane", "direction", "new"]) fun _ _ _ _ _ _ us hl => match us, hl with | [_, _, _, _, _, _], _ => rfl,
     PySem.W.mg_of X G a13,
     fun_mk (st := s_shifted) l14 c14 k14,
     (fun_mk (st := s_shifted) l14 c14 k14).binds (ps := ["parts", "index", "axis", "amount"]) fun _ _ _ _ _ _ us hl => match us, hl with | [_, _, _, _], _ => rfl,
     PySem.W.mg_of X G a14,
     fun_mk (st := s_with_border) l15 c15 k15,
     (fun_mk (st := s_with_border) l15 c15 k15).binds (ps := ["layout", "pane", "direction", "amount"]) fun _ _ _ _ _ _ us hl => match us, hl with | [_, _, _, _], _ => rfl,
     PySem.W.mg_of X G a15,
     fun_mk (st := s_moved) l16 c16 k16,
     (fun_mk (st := s_moved) l16 c16 k16).binds (ps := ["layout", "width", "height", "pane", "direction", "amount"]) fun _ _ _ _ _ _ us hl => match us, hl with | [_, _, _, _, _, _], _ => rfl,
     PySem.W.mg_of X G a16,
     fun_mk (st := s_dropped) l17 c17 k17,
     (fun_mk (st := s_dropped) l17 c17 k17).binds (ps := ["parts", "index"]) fun _ _ _ _ _ _ us hl => match us, hl with | [_, _], _ => rfl,
     PySem.W.mg_of X G a17,
     fun_mk (st := s_taken_out) l18 c18 k18,
     (fun_mk (st := s_taken_out) l18 c18 k18).binds (ps := ["layout", "pane"]) fun _ _ _ _ _ _ us hl => match us, hl with | [_, _], _ => rfl,
     PySem.W.mg_of X G a18,
     fun_mk (st := s_without) l19 c19 k19,
     (fun_mk (st := s_without) l19 c19 k19).binds (ps := ["layout", "width", "height", "pane"]) fun _ _ _ _ _ _ us hl => match us, hl with | [_, _, _, _], _ => rfl,
     PySem.W.mg_of X G a19,
     fun_mk (st := s__law_step) l20 c20 k20,
     (fun_mk (st := s__law_step) l20 c20 k20).binds (ps := ["_law_layout", "_law_w", "_law_h", "_law_cell_here", "_law_new"]) fun _ _ _ _ _ _ us hl => match us, hl with | [_, _, _, _, _], _ => rfl,
     PySem.W.mg_of X G a20,
     fun_mk (st := s_law) l21 c21 k21,
     (fun_mk (st := s_law) l21 c21 k21).binds (ps := ["_law_script"]) fun _ _ _ _ _ _ us hl => match us, hl with | [_], _ => rfl,
     PySem.W.mg_of X G a21,
     PySem.W.mg_none_of X G z_enumerate,
     PySem.W.mg_none_of X G z_int,
     PySem.W.mg_none_of X G z_isinstance,
     PySem.W.mg_none_of X G z_len,
     PySem.W.mg_none_of X G z_max,
     PySem.W.mg_none_of X G z_min,
     PySem.W.mg_none_of X G z_range,
     PySem.W.mg_none_of X G z_sorted,
     PySem.W.mg_none_of X G z_sum,
     PySem.W.mg_none_of X G z_tuple,
     PySem.W.mg_none_of X G z_zip,
     ⟨_, PySem.W.mg_of X G v_BESIDE⟩,
     PySem.W.mg_of X G gq_LEAST_PANE,
     KW.ref (KW.tup q_0 (show (2 : Nat) ≤ sizeLine by decide) (.cons (.int _ _) (.cons (.int _ _) .nil))),
     PySem.W.mg_of X G gd_LEAST_SPLIT,
     (ktabS_cons ⟨_, _, _, q_1, ⟨⟨_, _, rfl, hk1_0⟩, ⟨⟨_, _, rfl, hk1_1⟩, trivial⟩⟩, nk1_0, ⟨_, rfl⟩⟩ (ktabS_cons ⟨_, _, _, q_1, ⟨⟨_, _, rfl, hk1_0⟩, ⟨⟨_, _, rfl, hk1_1⟩, trivial⟩⟩, nk1_1, ⟨_, rfl⟩⟩ ktabS_nil)),
     (fun cc Ac hA => match cc, hA with | 0, hA => by cases hA; exact ⟨xhg_NoRoom, xhk_NoRoom, xb_NoRoom, xhd_NoRoom, xha_NoRoom, xhn_NoRoom, xht_NoRoom, xhm_NoRoom⟩ | k + 1, hA => absurd (show (none : Option Addr) = some Ac from hA) (by simp)),
     PySem.W.mg_of X G xg_NoRoom,
     xi_NoRoom,
     xt_NoRoom,
     xb_NoRoom,
     xf_NoRoom,
     (fun cc Ac hA => match cc, hA with | 0, hA => by cases hA; exact xs0_NoRoom | k + 1, hA => absurd (show (none : Option Addr) = some Ac from hA) (by simp)),
     xe_NoRoom,
     xk_NoRoom⟩
  exact ⟨_, fun s v => .of_eq rfl, fun base _ _ => law_ok (C := cx K _) rfl (ok_law T) law_true⟩
theorem walk {l : PySem.W.OpenLaw} {q : Program} {loose : List Str} {XP : (Str → Option Value) → Heap → Prop} {YP : World → Heap → Prop} {d : DefRec} {K : Params → PySem.W.Frag} (hn : l.most = some 63) (hdf : d.params.defaults = [])
    (hY : ∀ (w : World) (h : Heap), YP w h → (K w.params).In h) (F : ∀ (w : World) (mg : Str → Option Value) (fa : Addr) (h : Heap), (K w.params).In h → h.Ns mainGlobals mg → mg d.name = some (.ref fa) →
      ∃ fd : FuncData, (∀ (s : Shared) (u : Value), BindsTo s fd ⟨[u], []⟩ [("_law_script", u)]) ∧ ∀ base : Heap, (K w.params).In base → base.Ns mainGlobals mg → FnOk l.prog w (K w.params) mg base CX0 48 fa fd ["_law_script"] (spLaw (K w.params))) :
    PySem.W.WalkO q loose XP YP l.row.toRowW d [] (fun f vs => PySem.call f vs) :=
  L2.walk_of (n := 63) (k := 48) (x := "_law_script") (CX := fun _ => CX0) (sp := fun w => spLaw (K w.params)) hn (by decide) hdf ⟨rfl, by decide, by decide⟩ hY F (fun _ _ a ns hl _ hS => ⟨a, ns, rfl, hS, hl, fun _ => rfl⟩) fun _ _ _ _ _ z => z
end Kx
open PySem PySem.W PyProof.Rows in
set_option maxRecDepth 100000 in
set_option maxHeartbeats 0 in
theorem PySem.Challenge.cw_manypanes_k25_whole_layouts_tile_the_are_holds : PySem.Challenge.rw_manypanes_k25_whole_layouts_tile_the_are.Holds := by
  w_on; o_law; k_head; (case hw => w_witness2)
  k_fill
  refine Kx.walk (l := PySem.Challenge.rw_manypanes_k25_whole_layouts_tile_the_are) rfl rfl (fun w h Y => PySem.W.kIn_of Y) ?F
  case F =>
    intro w mg fa h KX G hmg
    refine' Kx.all_mk KX G hmg ?a0 ?l0 ?c0 ?k0 ?a1 ?l1 ?c1 ?k1 ?a2 ?l2 ?c2 ?k2 ?a3 ?l3 ?c3 ?k3 ?a4 ?l4 ?c4 ?k4 ?a5 ?l5 ?c5 ?k5 ?a6 ?l6 ?c6 ?k6 ?a7 ?l7 ?c7 ?k7 ?a8 ?l8 ?c8 ?k8 ?a9 ?l9 ?c9 ?k9 ?a10 ?l10 ?c10 ?k10 ?a11 ?l11 ?c11 ?k11 ?a12 ?l12 ?c12 ?k12 ?a13 ?l13 ?c13 ?k13 ?a14 ?l14 ?c14 ?k14 ?a15 ?l15 ?c15 ?k15 ?a16 ?l16 ?c16 ?k16 ?a17 ?l17 ?c17 ?k17 ?a18 ?l18 ?c18 ?k18 ?a19 ?l19 ?c19 ?k19 ?a20 ?l20 ?c20 ?k20 ?a21 ?l21 ?c21 ?k21 ?z_enumerate ?z_int ?z_isinstance ?z_len ?z_max ?z_min ?z_range ?z_sorted ?z_sum ?z_tuple ?z_zip ?v_BESIDE ?gq_LEAST_PANE ?q_0 ?gd_LEAST_SPLIT ?q_1 ?hk1_0 ?nk1_0 ?hk1_1 ?nk1_1 ?xg_NoRoom ?xi_NoRoom ?xt_NoRoom ?xb_NoRoom ?xf_NoRoom ?xs0_NoRoom ?xhg_NoRoom ?xhk_NoRoom ?xhd_NoRoom ?xha_NoRoom ?xhn_NoRoom ?xht_NoRoom ?xhm_NoRoom ?xe_NoRoom ?xk_NoRoom
    (case a0 => k_is)
    (case l0 => k_is)
    (case c0 => k_is)
    (case k0 => k_is)
    (case a1 => k_is)
    (case l1 => k_is)
    (case c1 => k_is)
    (case k1 => k_is)
    (case a2 => k_is)
    (case l2 => k_is)
    (case c2 => k_is)
    (case k2 => k_is)
    (case a3 => k_is)
    (case l3 => k_is)
    (case c3 => k_is)
    (case k3 => k_is)
    (case a4 => k_is)
    (case l4 => k_is)
    (case c4 => k_is)
    (case k4 => k_is)
    (case a5 => k_is)
    (case l5 => k_is)
    (case c5 => k_is)
    (case k5 => k_is)
    (case a6 => k_is)
    (case l6 => k_is)
    (case c6 => k_is)
    (case k6 => k_is)
    (case a7 => k_is)
    (case l7 => k_is)
    (case c7 => k_is)
    (case k7 => k_is)
    (case a8 => k_is)
    (case l8 => k_is)
    (case c8 => k_is)
    (case k8 => k_is)
    (case a9 => k_is)
    (case l9 => k_is)
    (case c9 => k_is)
    (case k9 => k_is)
    (case a10 => k_is)
    (case l10 => k_is)
    (case c10 => k_is)
    (case k10 => k_is)
    (case a11 => k_is)
    (case l11 => k_is)
    (case c11 => k_is)
    (case k11 => k_is)
    (case a12 => k_is)
    (case l12 => k_is)
    (case c12 => k_is)
    (case k12 => k_is)
    (case a13 => k_is)
    (case l13 => k_is)
    (case c13 => k_is)
    (case k13 => k_is)
    (case a14 => k_is)
    (case l14 => k_is)
    (case c14 => k_is)
    (case k14 => k_is)
    (case a15 => k_is)
    (case l15 => k_is)
    (case c15 => k_is)
    (case k15 => k_is)
    (case a16 => k_is)
    (case l16 => k_is)
    (case c16 => k_is)
    (case k16 => k_is)
    (case a17 => k_is)
    (case l17 => k_is)
    (case c17 => k_is)
    (case k17 => k_is)
    (case a18 => k_is)
    (case l18 => k_is)
    (case c18 => k_is)
    (case k18 => k_is)
    (case a19 => k_is)
    (case l19 => k_is)
    (case c19 => k_is)
    (case k19 => k_is)
    (case a20 => k_is)
    (case l20 => k_is)
    (case c20 => k_is)
    (case k20 => k_is)
    (case a21 => k_is)
    (case l21 => k_is)
    (case c21 => k_is)
    (case k21 => k_is)
    (case z_enumerate => k_is)
    (case z_int => k_is)
    (case z_isinstance => k_is)
    (case z_len => k_is)
    (case z_max => k_is)
    (case z_min => k_is)
    (case z_range => k_is)
    (case z_sorted => k_is)
    (case z_sum => k_is)
    (case z_tuple => k_is)
    (case z_zip => k_is)
    (case v_BESIDE => k_is)
    (case gq_LEAST_PANE => k_is)
    (case q_0 => k_is)
    (case gd_LEAST_SPLIT => k_is)
    (case q_1 => k_is)
    (case hk1_0 => rfl)
    (case nk1_0 => k_is)
    (case hk1_1 => rfl)
    (case nk1_1 => k_is)
    (case xg_NoRoom => k_is)
    (case xi_NoRoom => k_is)
    (case xt_NoRoom => k_is)
    (case xb_NoRoom => k_is)
    (case xf_NoRoom => k_is)
    (case xs0_NoRoom => k_is)
    (case xhg_NoRoom => k_is)
    (case xhk_NoRoom => k_is)
    (case xhd_NoRoom => k_is)
    (case xha_NoRoom => k_is)
    (case xhn_NoRoom => k_is)
    (case xht_NoRoom => k_is)
    (case xhm_NoRoom => k_is)
    (case xe_NoRoom => k_exc)
    (case xk_NoRoom => k_is)

