import PyProof.Rows.All
import Wide.All
import OpenK.AllK
import Wide.FinOn
import HandS.ForMost
import HandS.ForExc
import HandS.IsInst
import HandS.Flow
import HandS.Style
import HandS.Deep
import HandS.Defaults
import HandS.CallSlots
import HandS.Zip
import KE.GoesMore
import KE.GoesEnum
import HandS.TupAny
import HandS.Small
import HandS.WordsExc
import HandS.ExcOwn
import HandS.ExcIs
import HandS.FStr
import HandS.More
import PyProof.AutoSeq1
import PyProof.Rows.RegStrFacts
import HandS.Iter
import HandS.SortInts
import PySem.Challenge.RW_manypanes_k04_cut_bytes_give_the_same_ac
set_option Elab.async false
set_option linter.all false
set_option maxRecDepth 100000
set_option maxHeartbeats 4000000
/-! ML1: a functional reading of Python over a store of our own, core -/
namespace ML
open PySem L2

/-- a question that computation does not open -/
noncomputable def ck (p : Prop) : Bool := @decide p (Classical.propDecidable p)
@[simp] theorem ck_iff {p : Prop} : (ck p = true) = p := by
  unfold ck
  rw [@decide_eq_true_eq p (Classical.propDecidable p)]
/-- values: data as trees (tuples; lists that are never changed any more), places of the store -/
inductive W where
  | non | bl (b : Bool) | int (i : Int) | str (x : Str) | raw (v : V)
  | tup (ws : List W) | fl (ws : List W) | kl (ws : List W) | loc (l : Nat)
inductive O where
  | dead
  | lst (ws : List W)
  | ins (c : Nat) (fs : List (Option W))
  | dct (kvs : List (Key × W))
abbrev En := List (Option W)
abbrev Sto := List O
inductive R (α : Type) where
  | ok (a : α) (s : Sto)
  | ex (c : Nat) (s : Sto)
  | no
def R.bind {α β : Type} (r : R α) (f : α → Sto → R β) : R β := match r with
  | .ok a s => f a s
  | .ex c s => .ex c s
  | .no => .no
@[simp] theorem R.bind_ok {α β : Type} (a : α) (s : Sto) (f : α → Sto → R β) : (R.ok a s).bind f = f a s := rfl
@[simp] theorem R.bind_ex {α β : Type} (c : Nat) (s : Sto) (f : α → Sto → R β) : (R.ex c s).bind f = .ex c s := rfl
@[simp] theorem R.bind_no {α β : Type} (f : α → Sto → R β) : (R.no : R α).bind f = .no := rfl
@[simp] theorem R.bind_ite {α β : Type} (c : Prop) [Decidable c] (a b : R α) (f : α → Sto → R β) : (if c then a else b).bind f = if c then a.bind f else b.bind f := by split <;> rfl
inductive SR where
  | nx (e : En) (s : Sto) | rt (w : W) (s : Sto) | bk (e : En) (s : Sto) | ct (e : En) (s : Sto) | ex (c : Nat) (s : Sto) | no
/-- a bool's use -/
def W.cb {α : Type} (x : W) (f : Bool → R α) : R α := match x with
  | .bl k => f k
  | _ => .no
@[simp] theorem W.cb_bl {α : Type} (k : Bool) (f : Bool → R α) : (W.bl k).cb f = f k := rfl
/-- behind a statement -/
def SR.go (r : SR) (k : En → Sto → SR) : SR := match r with
  | .nx e s => k e s
  | .rt w s => .rt w s
  | .bk e s => .bk e s
  | .ct e s => .ct e s
  | .ex c s => .ex c s
  | .no => .no
@[simp] theorem SR.go_nx (e : En) (s : Sto) (k : En → Sto → SR) : (SR.nx e s).go k = k e s := rfl
@[simp] theorem SR.go_rt (e : W) (s : Sto) (k : En → Sto → SR) : (SR.rt e s).go k = .rt e s := rfl
@[simp] theorem SR.go_bk (e : En) (s : Sto) (k : En → Sto → SR) : (SR.bk e s).go k = .bk e s := rfl
@[simp] theorem SR.go_ct (e : En) (s : Sto) (k : En → Sto → SR) : (SR.ct e s).go k = .ct e s := rfl
@[simp] theorem SR.go_ex (e : Nat) (s : Sto) (k : En → Sto → SR) : (SR.ex e s).go k = .ex e s := rfl
@[simp] theorem SR.go_no (k : En → Sto → SR) : SR.no.go k = .no := rfl
@[simp] theorem SR.go_ite (c : Prop) [Decidable c] (a b : SR) (k : En → Sto → SR) : (if c then a else b).go k = if c then a.go k else b.go k := by split <;> rfl
/-- behind a loop's body -/
def SR.lp (r : SR) (k : En → Sto → SR) : SR := match r with
  | .nx e s => k e s
  | .ct e s => k e s
  | .bk e s => .nx e s
  | .rt w s => .rt w s
  | .ex c s => .ex c s
  | .no => .no
@[simp] theorem SR.lp_nx (e : En) (s : Sto) (k : En → Sto → SR) : (SR.nx e s).lp k = k e s := rfl
@[simp] theorem SR.lp_rt (e : W) (s : Sto) (k : En → Sto → SR) : (SR.rt e s).lp k = .rt e s := rfl
@[simp] theorem SR.lp_bk (e : En) (s : Sto) (k : En → Sto → SR) : (SR.bk e s).lp k = .nx e s := rfl
@[simp] theorem SR.lp_ct (e : En) (s : Sto) (k : En → Sto → SR) : (SR.ct e s).lp k = k e s := rfl
@[simp] theorem SR.lp_ex (e : Nat) (s : Sto) (k : En → Sto → SR) : (SR.ex e s).lp k = .ex e s := rfl
@[simp] theorem SR.lp_no (k : En → Sto → SR) : SR.no.lp k = .no := rfl
@[simp] theorem SR.lp_ite (c : Prop) [Decidable c] (a b : SR) (k : En → Sto → SR) : (if c then a else b).lp k = if c then a.lp k else b.lp k := by split <;> rfl
abbrev Ex := En → Sto → R W
abbrev Bx := En → Sto → R Bool
abbrev Ax := En → Sto → R (List W)
abbrev Sx := En → Sto → SR
/-- what the text has: the written part, the classes (place, names of the fields), the classes of errors -/
structure MC where
  K : PySem.W.Frag
  cls : List (Addr × List Str)
  exn : List Addr

/-- where the places stand; what else may be written, by one alone (a list that is being made) -/
structure Pl where
  pl : List Addr
  hd : List Addr
def Pl.add (ρ : Pl) (p : Addr) : Pl := ⟨ρ.pl ++ [p], ρ.hd⟩
def Pl.hide (ρ : Pl) (p : Addr) : Pl := ⟨ρ.pl, p :: ρ.hd⟩
/-- nobody writes at a any more -/
def NL (ρ : Pl) (st : Sto) (a : Addr) : Prop := (∀ l : Nat, ρ.pl[l]? = some a → st[l]? = some O.dead) ∧ a ∉ ρ.hd
/-- a list that never changes any more -/
def Fz (K : PySem.W.Frag) (H : Hp) (ρ : Pl) (st : Sto) (a : Addr) (vs : List V) : Prop :=
  (H a = some (.lst vs) ∧ NL ρ st a) ∨ (∃ o, H a = some (.frz o (.lst vs))) ∨ SqL K (fun _ => none) a vs
mutual
inductive Rep (K : PySem.W.Frag) (H : Hp) (ρ : Pl) (st : Sto) : V → W → Prop
  | non : Rep K H ρ st .non .non
  | bl (b : Bool) : Rep K H ρ st (.bl b) (.bl b)
  | int (i : Int) : Rep K H ρ st (.int i) (.int i)
  | str (x : Str) : Rep K H ρ st (.str x) (.str x)
  | raw (v : V) : Rep K H ρ st v (.raw v)
  | tup {a : Addr} {vs : List V} {ws : List W} : SqT K H a vs → RepL K H ρ st vs ws → Rep K H ρ st (.ref a) (.tup ws)
  | fl {a : Addr} {vs : List V} {ws : List W} : H a = some (.lst vs) → NL ρ st a → RepL K H ρ st vs ws → Rep K H ρ st (.ref a) (.fl ws)
  | kl {a : Addr} {vs : List V} {ws : List W} : Fz K H ρ st a vs → RepL K H ρ st vs ws → Rep K H ρ st (.ref a) (.kl ws)
  | loc {a : Addr} {l : Nat} : ρ.pl[l]? = some a → Rep K H ρ st (.ref a) (.loc l)
inductive RepL (K : PySem.W.Frag) (H : Hp) (ρ : Pl) (st : Sto) : List V → List W → Prop
  | nil : RepL K H ρ st [] []
  | cons {v : V} {vs : List V} {w : W} {ws : List W} : Rep K H ρ st v w → RepL K H ρ st vs ws → RepL K H ρ st (v :: vs) (w :: ws)
end

/-- how the state goes on -/
structure Evo (H : Hp) (ρ : Pl) (st : Sto) (H' : Hp) (ρ' : Pl) (st' : Sto) : Prop where
  pre : ∀ (l : Nat) (a : Addr), ρ.pl[l]? = some a → ρ'.pl[l]? = some a
  dd : ∀ l : Nat, st[l]? = some O.dead → st'[l]? = some O.dead
  keep : ∀ (a : Addr) (o : HO), H a = some o → (∀ l : Nat, ρ.pl[l]? = some a → st[l]? = some O.dead) → H' a = some o
  new : ∀ (l : Nat) (a : Addr), ρ'.pl[l]? = some a → ρ.pl[l]? = some a ∨ H a = none
  dom : ∀ a : Addr, H' a = none → H a = none
  newh : ∀ a ∈ ρ'.hd, a ∈ ρ.hd ∨ H a = none
  oldh : ∀ a ∈ ρ.hd, a ∈ ρ'.hd

theorem Evo.refl (H : Hp) (ρ : Pl) (st : Sto) : Evo H ρ st H ρ st :=
  ⟨fun _ _ h => h, fun _ h => h, fun _ _ h _ => h, fun _ _ h => .inl h, fun _ h => h, fun _ h => .inl h, fun _ h => h⟩
theorem Evo.trans {H H1 H2 : Hp} {ρ ρ1 ρ2 : Pl} {st st1 st2 : Sto} (a : Evo H ρ st H1 ρ1 st1) (b : Evo H1 ρ1 st1 H2 ρ2 st2) : Evo H ρ st H2 ρ2 st2 where
  pre := fun l x h => b.pre l x (a.pre l x h)
  dd := fun l h => b.dd l (a.dd l h)
  keep := fun x o h nl => b.keep x o (a.keep x o h nl) fun l q => by
    rcases a.new l x q with q | q
    · exact a.dd l (nl l q)
    · rw [h] at q; cases q
  new := fun l x q => by
    rcases b.new l x q with q | q
    · exact a.new l x q
    · exact .inr (a.dom x q)
  dom := fun x q => a.dom x (b.dom x q)
  newh := fun x q => by
    rcases b.newh x q with q | q
    · exact a.newh x q
    · exact .inr (a.dom x q)
  oldh := fun x q => b.oldh x (a.oldh x q)
theorem NL.evo {H H' : Hp} {ρ ρ' : Pl} {st st' : Sto} (E : Evo H ρ st H' ρ' st') {a : Addr} {o : HO} (h : H a = some o) (n : NL ρ st a) : NL ρ' st' a := by
  refine ⟨fun l q => ?_, fun q => ?_⟩
  · rcases E.new l a q with q | q
    · exact E.dd l (n.1 l q)
    · rw [h] at q; cases q
  · rcases E.newh a q with q | q
    · exact n.2 q
    · rw [h] at q; cases q

def isMutO : HO → Prop
  | .lst _ => True
  | .ins _ _ _ => True
  | .dK _ => True
  | _ => False
/-- places that live hold what can be changed -/
def Liv (H : Hp) (ρ : Pl) (st : Sto) : Prop := ∀ (l : Nat) (a : Addr), ρ.pl[l]? = some a → st[l]? = some O.dead ∨ ∃ o, H a = some o ∧ isMutO o
theorem Liv.not {H : Hp} {ρ : Pl} {st : Sto} (L : Liv H ρ st) {a : Addr} {o : HO} (h : H a = some o) (n : ¬ isMutO o) : ∀ l : Nat, ρ.pl[l]? = some a → st[l]? = some O.dead := fun l q => by
  rcases L l a q with z | ⟨u, e, m⟩
  · exact z
  · rw [h] at e; cases e; exact absurd m n
section
variable {K : PySem.W.Frag} {H H' : Hp} {ρ ρ' : Pl} {st st' : Sto}
theorem SqT.evo (E : Evo H ρ st H' ρ' st') (L : Liv H ρ st) {a : Addr} {vs : List V} (h : SqT K H a vs) : SqT K H' a vs := by
  rcases h with (h | ⟨o, h⟩) | h
  · exact .inl (.inl (E.keep a _ h (L.not h id)))
  · exact .inl (.inr ⟨o, E.keep a _ h (L.not h id)⟩)
  · exact .inr h
theorem Fz.evo (E : Evo H ρ st H' ρ' st') (L : Liv H ρ st) {a : Addr} {vs : List V} (h : Fz K H ρ st a vs) : Fz K H' ρ' st' a vs := by
  rcases h with ⟨h, n⟩ | ⟨o, h⟩ | h
  · exact .inl ⟨E.keep a _ h n.1, n.evo E h⟩
  · exact .inr (.inl ⟨o, E.keep a _ h (L.not h id)⟩)
  · exact .inr (.inr h)
theorem Fz.seq {a : Addr} {vs : List V} (h : Fz K H ρ st a vs) : SqL K H a vs := by
  rcases h with ⟨h, _⟩ | ⟨o, h⟩ | h
  · exact .inl (.inl h)
  · exact .inl (.inr ⟨o, h⟩)
  · rcases h with (h | ⟨o, h⟩) | h
    · cases h
    · cases h
    · exact .inr h
mutual
theorem Rep.evo (E : Evo H ρ st H' ρ' st') (L : Liv H ρ st) : ∀ {v : V} {w : W}, Rep K H ρ st v w → Rep K H' ρ' st' v w
  | _, _, .non => .non
  | _, _, .bl b => .bl b
  | _, _, .int i => .int i
  | _, _, .str x => .str x
  | _, _, .raw v => .raw v
  | _, _, .tup h r => .tup (SqT.evo E L h) (RepL.evo E L r)
  | _, _, .fl h n r => .fl (E.keep _ _ h n.1) (n.evo E h) (RepL.evo E L r)
  | _, _, .kl h r => .kl (Fz.evo E L h) (RepL.evo E L r)
  | _, _, .loc h => .loc (E.pre _ _ h)
theorem RepL.evo (E : Evo H ρ st H' ρ' st') (L : Liv H ρ st) : ∀ {vs : List V} {ws : List W}, RepL K H ρ st vs ws → RepL K H' ρ' st' vs ws
  | _, _, .nil => .nil
  | _, _, .cons h r => .cons (Rep.evo E L h) (RepL.evo E L r)
end
end
section
variable {K : PySem.W.Frag} {H : Hp} {ρ : Pl} {st : Sto}
theorem RepL.length : ∀ {vs : List V} {ws : List W}, RepL K H ρ st vs ws → vs.length = ws.length
  | _, _, .nil => rfl
  | _, _, .cons _ r => congrArg (· + 1) (RepL.length r)
theorem RepL.get : ∀ {vs : List V} {ws : List W} {i : Nat} {w : W}, RepL K H ρ st vs ws → ws[i]? = some w → ∃ v, vs[i]? = some v ∧ Rep K H ρ st v w
  | _, _, _, _, .nil, e => by simp at e
  | _, _, 0, _, .cons h _, e => by simp at e; subst e; exact ⟨_, rfl, h⟩
  | _, _, i + 1, w, .cons _ r, e => by
    obtain ⟨v, h1, h2⟩ := RepL.get (i := i) (w := w) r (by simpa using e)
    exact ⟨v, by simpa using h1, h2⟩
theorem RepL.getV : ∀ {vs : List V} {ws : List W} {i : Nat} {v : V}, RepL K H ρ st vs ws → vs[i]? = some v → ∃ w, ws[i]? = some w ∧ Rep K H ρ st v w
  | _, _, _, _, .nil, e => by simp at e
  | _, _, 0, _, .cons h _, e => by simp at e; subst e; exact ⟨_, rfl, h⟩
  | _, _, i + 1, w, .cons _ r, e => by
    obtain ⟨v, h1, h2⟩ := RepL.getV (i := i) (v := w) r (by simpa using e)
    exact ⟨v, by simpa using h1, h2⟩
theorem RepL.append : ∀ {vs us : List V} {ws xs : List W}, RepL K H ρ st vs ws → RepL K H ρ st us xs → RepL K H ρ st (vs ++ us) (ws ++ xs)
  | _, _, _, _, .nil, s => s
  | _, _, _, _, .cons h r, s => .cons h (RepL.append r s)
theorem RepL.take : ∀ {vs : List V} {ws : List W} (n : Nat), RepL K H ρ st vs ws → RepL K H ρ st (vs.take n) (ws.take n)
  | _, _, 0, _ => by simp; exact .nil
  | _, _, _ + 1, .nil => .nil
  | _, _, n + 1, .cons h r => .cons h (RepL.take n r)
theorem RepL.drop : ∀ {vs : List V} {ws : List W} (n : Nat), RepL K H ρ st vs ws → RepL K H ρ st (vs.drop n) (ws.drop n)
  | _, _, 0, r => r
  | _, _, _ + 1, .nil => .nil
  | _, _, n + 1, .cons _ r => RepL.drop n r
theorem RepL.set {v : V} {w : W} (h : Rep K H ρ st v w) : ∀ {vs : List V} {ws : List W} (i : Nat), RepL K H ρ st vs ws → RepL K H ρ st (vs.set i v) (ws.set i w)
  | _, _, _, .nil => .nil
  | _, _, 0, .cons _ r => .cons h r
  | _, _, i + 1, .cons q r => .cons q (RepL.set h i r)
theorem RepL.eraseIdx : ∀ {vs : List V} {ws : List W} (i : Nat), RepL K H ρ st vs ws → RepL K H ρ st (vs.eraseIdx i) (ws.eraseIdx i)
  | _, _, _, .nil => .nil
  | _, _, 0, .cons _ r => r
  | _, _, i + 1, .cons q r => .cons q (RepL.eraseIdx i r)
theorem RepL.dropLast {vs : List V} {ws : List W} (r : RepL K H ρ st vs ws) : RepL K H ρ st vs.dropLast ws.dropLast := by
  rw [List.dropLast_eq_take, List.dropLast_eq_take, r.length]; exact r.take _
theorem RepL.replicate {v : V} {w : W} (h : Rep K H ρ st v w) : ∀ n : Nat, RepL K H ρ st (List.replicate n v) (List.replicate n w)
  | 0 => .nil
  | n + 1 => .cons h (RepL.replicate h n)
theorem RepL.one {vs : List V} {w : W} (r : RepL K H ρ st vs [w]) : ∃ v, vs = [v] ∧ Rep K H ρ st v w := by
  cases r with | cons h r => cases r; exact ⟨_, rfl, h⟩
theorem RepL.two {vs : List V} {w x : W} (r : RepL K H ρ st vs [w, x]) : ∃ v u, vs = [v, u] ∧ Rep K H ρ st v w ∧ Rep K H ρ st u x := by
  cases r with | cons h r => obtain ⟨u, rfl, q⟩ := r.one; exact ⟨_, _, rfl, h, q⟩
theorem RepL.ints : ∀ {vs : List V} {ns : List Int}, RepL K H ρ st vs (ns.map W.int) → vs = ns.map V.int
  | _, [], h => by cases h; rfl
  | _, n :: ns, h => by
    cases h with
    | cons h r => cases h; rw [RepL.ints r]; rfl
theorem repL_ints (ns : List Int) : RepL K H ρ st (ns.map V.int) (ns.map W.int) := by
  induction ns with
  | nil => exact .nil
  | cons n ns ih => exact .cons (.int n) ih
theorem RepL.bls : ∀ {vs : List V} {ns : List Bool}, RepL K H ρ st vs (ns.map W.bl) → vs = ns.map V.bl
  | _, [], h => by cases h; rfl
  | _, n :: ns, h => by
    cases h with
    | cons h r => cases h; rw [RepL.bls r]; rfl
end

def RepF (C : MC) (H : Hp) (ρ : Pl) (st : Sto) (nm : List Str) (fvs : List (Str × V)) (fs : List (Option W)) : Prop :=
  fs.length = nm.length ∧ (∀ (i : Nat) (f : Str) (w : W), nm[i]? = some f → fs[i]? = some (some w) → ∃ v, fvs.lookup f = some v ∧ Rep C.K H ρ st v w) ∧
  (fvs.map (·.1)).Nodup ∧ ∀ f ∈ fvs.map (·.1), f ∈ nm
def RepK (K : PySem.W.Frag) (H : Hp) (ρ : Pl) (st : Sto) : List (Key × V) → List (Key × W) → Prop
  | [], [] => True
  | (k, v) :: kvs, (j, w) :: kws => k = j ∧ Rep K H ρ st v w ∧ RepK K H ρ st kvs kws
  | _, _ => False
def RepO (C : MC) (H : Hp) (ρ : Pl) (st : Sto) (a : Addr) : O → Prop
  | .dead => ∃ u, H a = some u
  | .lst ws => ∃ vs, H a = some (.lst vs) ∧ RepL C.K H ρ st vs ws
  | .ins c fs => ∃ Cd nm dx fvs, C.cls[c]? = some (Cd, nm) ∧ H a = some (.ins Cd dx fvs) ∧ RepF C H ρ st nm fvs fs
  | .dct kws => ∃ kvs, H a = some (.dK kvs) ∧ RepK C.K H ρ st kvs kws
structure RelS (C : MC) (H : Hp) (ρ : Pl) (st : Sto) : Prop where
  len : ρ.pl.length = st.length
  inj : ∀ (l m : Nat) (a : Addr), ρ.pl[l]? = some a → ρ.pl[m]? = some a → l = m
  obj : ∀ (l : Nat) (a : Addr) (o : O), ρ.pl[l]? = some a → st[l]? = some o → RepO C H ρ st a o
  hid : ∀ a ∈ ρ.hd, (∃ o, H a = some o ∧ isMutO o) ∧ ∀ l : Nat, ρ.pl[l]? ≠ some a
section
variable {C : MC} {H H' : Hp} {ρ ρ' : Pl} {st st' : Sto}
theorem RelS.at (S : RelS C H ρ st) {l : Nat} {a : Addr} (h : ρ.pl[l]? = some a) : ∃ o, st[l]? = some o := by
  have q := (List.getElem?_eq_some_iff.mp h).1
  rw [S.len] at q
  exact ⟨st[l], by simp [q]⟩
theorem RelS.addr (S : RelS C H ρ st) {l : Nat} {o : O} (h : st[l]? = some o) : ∃ a, ρ.pl[l]? = some a ∧ RepO C H ρ st a o := by
  have q := (List.getElem?_eq_some_iff.mp h).1
  rw [← S.len] at q
  exact ⟨ρ.pl[l], by simp [q], S.obj l _ o (by simp [q]) h⟩
theorem RelS.liv (S : RelS C H ρ st) : Liv H ρ st := fun l a h => by
  obtain ⟨o, e⟩ := S.at h
  have q := S.obj l a o h e
  cases o with
  | dead => exact .inl e
  | lst ws => obtain ⟨vs, e, _⟩ := q; exact .inr ⟨_, e, trivial⟩
  | ins c fs => obtain ⟨_, _, _, _, _, e, _⟩ := q; exact .inr ⟨_, e, trivial⟩
  | dct kws => obtain ⟨vs, e, _⟩ := q; exact .inr ⟨_, e, trivial⟩
theorem RelS.has (S : RelS C H ρ st) {l : Nat} {a : Addr} (h : ρ.pl[l]? = some a) : ∃ u, H a = some u := by
  obtain ⟨o, e⟩ := S.at h
  have q := S.obj l a o h e
  cases o with
  | dead => exact q
  | lst ws => obtain ⟨vs, e, _⟩ := q; exact ⟨_, e⟩
  | ins c fs => obtain ⟨_, _, _, _, _, e, _⟩ := q; exact ⟨_, e⟩
  | dct kws => obtain ⟨vs, e, _⟩ := q; exact ⟨_, e⟩
theorem RepF.evo {nm : List Str} {fvs : List (Str × V)} {fs : List (Option W)} (E : Evo H ρ st H' ρ' st') (L : Liv H ρ st) (h : RepF C H ρ st nm fvs fs) : RepF C H' ρ' st' nm fvs fs :=
  ⟨h.1, fun i f w a b => let ⟨v, e, r⟩ := h.2.1 i f w a b; ⟨v, e, r.evo E L⟩, h.2.2⟩
theorem RepK.evo {K : PySem.W.Frag} (E : Evo H ρ st H' ρ' st') (L : Liv H ρ st) : ∀ {kvs : List (Key × V)} {kws : List (Key × W)}, RepK K H ρ st kvs kws → RepK K H' ρ' st' kvs kws
  | [], [], _ => trivial
  | (k, v) :: kvs, (j, w) :: kws, h => ⟨h.1, h.2.1.evo E L, RepK.evo E L h.2.2⟩
  | [], _ :: _, h => h.elim
  | _ :: _, [], h => h.elim
theorem RepO.evo {a : Addr} {o : O} (E : Evo H ρ st H' ρ' st') (L : Liv H ρ st) (e : H' a = H a) (h : RepO C H ρ st a o) : RepO C H' ρ' st' a o := by
  cases o with
  | dead => obtain ⟨u, q⟩ := h; exact ⟨u, e.trans q⟩
  | lst ws => obtain ⟨vs, q, r⟩ := h; exact ⟨vs, e.trans q, r.evo E L⟩
  | ins c fs => obtain ⟨Cd, nm, dx, fvs, q1, q2, r⟩ := h; exact ⟨Cd, nm, dx, fvs, q1, e.trans q2, r.evo E L⟩
  | dct kws => obtain ⟨kvs, q, r⟩ := h; exact ⟨kvs, e.trans q, r.evo E L⟩
/-- a new object that has no place of its own -/
theorem Evo.laid {p : Addr} {o : HO} (hp : H p = none) : Evo H ρ st (upd H p o) ρ st :=
  ⟨fun _ _ h => h, fun _ h => h, fun a u h _ => by rw [upd_ne (ne_of_none h hp)]; exact h, fun _ _ h => .inl h, fun a h => by
    by_cases e : a = p
    · rw [e]; exact hp
    · rw [upd_ne e] at h; exact h, fun _ h => .inl h, fun _ h => h⟩
theorem RelS.fresh (S : RelS C H ρ st) {p : Addr} (h : H p = none) : (∀ l : Nat, ρ.pl[l]? ≠ Option.some p) ∧ p ∉ ρ.hd := by
  refine ⟨fun l q => ?_, fun q => ?_⟩
  · obtain ⟨u, e⟩ := S.has q
    rw [h] at e; cases e
  · obtain ⟨⟨o, e, _⟩, _⟩ := S.hid p q
    rw [h] at e; cases e
theorem RelS.nl (S : RelS C H ρ st) {p : Addr} (h : H p = none) : NL ρ st p := ⟨fun l q => absurd q ((S.fresh h).1 l), (S.fresh h).2⟩
theorem RelS.laid (S : RelS C H ρ st) {p : Addr} {o : HO} (hp : H p = none) : RelS C (upd H p o) ρ st :=
  ⟨S.len, S.inj, fun l a u h e => (S.obj l a u h e).evo (Evo.laid hp) S.liv (upd_ne fun z => (S.fresh hp).1 l (z ▸ h)), fun a h => by
    obtain ⟨⟨o, e, m⟩, q⟩ := S.hid a h
    exact ⟨⟨o, by rw [upd_ne (ne_of_none e hp)]; exact e, m⟩, q⟩⟩
theorem add_at {ρ : Pl} {p : Addr} {l : Nat} {a : Addr} (h : (ρ.add p).pl[l]? = Option.some a) : ρ.pl[l]? = Option.some a ∨ (l = ρ.pl.length ∧ a = p) := by
  have h : (ρ.pl ++ [p])[l]? = Option.some a := h
  rw [List.getElem?_append] at h
  split at h
  · exact .inl h
  · cases q : l - ρ.pl.length with
    | zero => rw [q] at h; simp at h; exact .inr ⟨by omega, h.symm⟩
    | succ k => rw [q] at h; simp at h
theorem add_old {ρ : Pl} {p : Addr} {l : Nat} {a : Addr} (h : ρ.pl[l]? = Option.some a) : (ρ.add p).pl[l]? = Option.some a := by
  show (ρ.pl ++ [p])[l]? = Option.some a
  rw [List.getElem?_append_left (List.getElem?_eq_some_iff.mp h).1]; exact h
theorem add_new {ρ : Pl} {p : Addr} : (ρ.add p).pl[ρ.pl.length]? = Option.some p := by
  show (ρ.pl ++ [p])[ρ.pl.length]? = Option.some p
  simp
/-- a new object with a place -/
theorem Evo.push {p : Addr} {o : HO} {u : O} (hp : H p = none) : Evo H ρ st (upd H p o) (ρ.add p) (st ++ [u]) :=
  ⟨fun l a h => add_old h, fun l h => by rw [List.getElem?_append_left (List.getElem?_eq_some_iff.mp h).1]; exact h,
   fun a u h _ => by rw [upd_ne (ne_of_none h hp)]; exact h,
   fun l a h => by
    rcases add_at h with h | ⟨_, h⟩
    · exact .inl h
    · rw [h]; exact .inr hp,
   fun a h => by
    by_cases e : a = p
    · rw [e]; exact hp
    · rw [upd_ne e] at h; exact h, fun _ h => .inl h, fun _ h => h⟩
theorem RelS.push (S : RelS C H ρ st) {p : Addr} {o : HO} {u : O} (hp : H p = none) (hu : RepO C (upd H p o) (ρ.add p) (st ++ [u]) p u) : RelS C (upd H p o) (ρ.add p) (st ++ [u]) := by
  refine ⟨by show (ρ.pl ++ [p]).length = _; simp [S.len], fun l m a h1 h2 => ?_, fun l a x h e => ?_, fun a h => ?_⟩
  · rcases add_at h1 with h1 | ⟨h1, e1⟩
    · rcases add_at h2 with h2 | ⟨h2, e2⟩
      · exact S.inj l m a h1 h2
      · rw [e2] at h1; exact absurd h1 ((S.fresh hp).1 l)
    · rcases add_at h2 with h2 | ⟨h2, e2⟩
      · rw [e1] at h2; exact absurd h2 ((S.fresh hp).1 m)
      · rw [h1, h2]
  · rcases add_at h with h | ⟨h, ea⟩
    · rw [List.getElem?_append_left (by rw [← S.len]; exact (List.getElem?_eq_some_iff.mp h).1)] at e
      exact (S.obj l a x h e).evo (Evo.push hp) S.liv (upd_ne fun z => (S.fresh hp).1 l (z ▸ h))
    · rw [h, S.len, List.getElem?_append_right (Nat.le_refl _)] at e
      simp at e
      rw [ea, ← e]
      exact hu
  · obtain ⟨⟨o, e, m⟩, q⟩ := S.hid a h
    refine ⟨⟨o, by rw [upd_ne (ne_of_none e hp)]; exact e, m⟩, fun l z => ?_⟩
    rcases add_at z with z | ⟨_, z⟩
    · exact q l z
    · rw [z, hp] at e; cases e
/-- a living place is written -/
theorem Evo.write {l : Nat} {a : Addr} {o : HO} {u x : O} (h : ρ.pl[l]? = Option.some a) (e : st[l]? = Option.some x) (nx : x ≠ .dead) : Evo H ρ st (upd H a o) ρ (st.set l u) :=
  ⟨fun _ _ h => h, fun m q => by
    by_cases z : l = m
    · rw [← z, e] at q; cases q; exact absurd rfl nx
    · rw [List.getElem?_set_ne z]; exact q,
   fun b v q nl => by
    by_cases z : b = a
    · have := nl l (z ▸ h); rw [e] at this; cases this; exact absurd rfl nx
    · rw [upd_ne z]; exact q, fun _ _ h => .inl h, fun b q => by
    by_cases z : b = a
    · rw [z, upd_same] at q; cases q
    · rw [upd_ne z] at q; exact q, fun _ h => .inl h, fun _ h => h⟩
theorem RelS.write (S : RelS C H ρ st) {l : Nat} {a : Addr} {o : HO} {u x : O} (h : ρ.pl[l]? = Option.some a) (e : st[l]? = Option.some x) (nx : x ≠ .dead) (hu : RepO C (upd H a o) ρ (st.set l u) a u) : RelS C (upd H a o) ρ (st.set l u) := by
  refine ⟨by simp [S.len], S.inj, fun m b y q r => ?_, fun b hb => ?_⟩
  · by_cases z : l = m
    · subst z
      rw [List.getElem?_set_self (List.getElem?_eq_some_iff.mp e).1] at r
      cases r
      rw [h] at q; cases q
      exact hu
    · rw [List.getElem?_set_ne z] at r
      exact (S.obj m b y q r).evo (Evo.write h e nx) S.liv (upd_ne fun w => z (S.inj l m a h (w ▸ q)))
  · obtain ⟨⟨o, e, m⟩, q⟩ := S.hid b hb
    exact ⟨⟨o, by rw [upd_ne (fun z => q l (by rw [z]; exact h))]; exact e, m⟩, q⟩
/-- a place is given up -/
theorem Evo.kill {l : Nat} : Evo H ρ st H ρ (st.set l .dead) :=
  ⟨fun _ _ h => h, fun m q => by
    by_cases z : l = m
    · rw [← z, List.getElem?_set_self (by rw [z]; exact (List.getElem?_eq_some_iff.mp q).1)]
    · rw [List.getElem?_set_ne z]; exact q, fun _ _ h _ => h, fun _ _ h => .inl h, fun _ h => h, fun _ h => .inl h, fun _ h => h⟩
theorem RelS.kill (S : RelS C H ρ st) {l : Nat} : RelS C H ρ (st.set l .dead) := by
  refine ⟨by simp [S.len], S.inj, fun m b y q r => ?_, S.hid⟩
  by_cases z : l = m
  · subst z
    rw [List.getElem?_set_self (by rw [← S.len]; exact (List.getElem?_eq_some_iff.mp q).1)] at r
    cases r
    exact S.has q
  · rw [List.getElem?_set_ne z] at r
    exact (S.obj m b y q r).evo Evo.kill S.liv rfl
/-- a new object that one alone writes -/
theorem Evo.hide {p : Addr} {o : HO} (hp : H p = none) : Evo H ρ st (upd H p o) (ρ.hide p) st :=
  ⟨fun _ _ h => h, fun _ h => h, fun a u h _ => by rw [upd_ne (ne_of_none h hp)]; exact h, fun _ _ h => .inl h, fun a h => by
    by_cases e : a = p
    · rw [e]; exact hp
    · rw [upd_ne e] at h; exact h, fun a h => by
    rcases List.mem_cons.mp h with h | h
    · rw [h]; exact .inr hp
    · exact .inl h, fun a h => List.mem_cons_of_mem _ h⟩
theorem RelS.hide (S : RelS C H ρ st) {p : Addr} {o : HO} (hp : H p = none) (ho : isMutO o) : RelS C (upd H p o) (ρ.hide p) st :=
  ⟨S.len, S.inj, fun l a u h e => (S.obj l a u h e).evo (Evo.hide hp) S.liv (upd_ne fun z => (S.fresh hp).1 l (z ▸ h)), fun a h => by
    rcases List.mem_cons.mp h with h | h
    · rw [h]; exact ⟨⟨o, upd_same, ho⟩, (S.fresh hp).1⟩
    · obtain ⟨⟨o, e, m⟩, q⟩ := S.hid a h
      exact ⟨⟨o, by rw [upd_ne (ne_of_none e hp)]; exact e, m⟩, q⟩⟩
end
/-! what is hidden is written: nothing else leans on it -/
section
variable {K : PySem.W.Frag} {C : MC} {H : Hp} {ρ : Pl} {st : Sto} {D : Addr} {o : HO}
mutual
theorem Rep.hidw (hD : D ∈ ρ.hd) (hm : ∃ u, H D = some u ∧ isMutO u) : ∀ {v : V} {w : W}, Rep K H ρ st v w → Rep K (upd H D o) ρ st v w
  | _, _, .non => .non
  | _, _, .bl b => .bl b
  | _, _, .int i => .int i
  | _, _, .str x => .str x
  | _, _, .raw v => .raw v
  | _, _, .tup h r => .tup (by
      obtain ⟨u, hu, mu⟩ := hm
      rcases h with (h | ⟨x, h⟩) | h
      · exact .inl (.inl (by rw [upd_ne (ne_of h hu (fun z => by rw [← z] at mu; exact mu))]; exact h))
      · exact .inl (.inr ⟨x, by rw [upd_ne (ne_of h hu (fun z => by rw [← z] at mu; exact mu))]; exact h⟩)
      · exact .inr h) (RepL.hidw hD hm r)
  | _, _, .fl h n r => .fl (by rw [upd_ne (fun z => n.2 (by rw [z]; exact hD))]; exact h) n (RepL.hidw hD hm r)
  | _, _, .kl h r => .kl (by
      obtain ⟨u, hu, mu⟩ := hm
      rcases h with ⟨h, n⟩ | ⟨x, h⟩ | h
      · exact .inl ⟨by rw [upd_ne (fun z => n.2 (by rw [z]; exact hD))]; exact h, n⟩
      · exact .inr (.inl ⟨x, by rw [upd_ne (ne_of h hu (fun z => by rw [← z] at mu; exact mu))]; exact h⟩)
      · exact .inr (.inr h)) (RepL.hidw hD hm r)
  | _, _, .loc h => .loc h
theorem RepL.hidw (hD : D ∈ ρ.hd) (hm : ∃ u, H D = some u ∧ isMutO u) : ∀ {vs : List V} {ws : List W}, RepL K H ρ st vs ws → RepL K (upd H D o) ρ st vs ws
  | _, _, .nil => .nil
  | _, _, .cons h r => .cons (Rep.hidw hD hm h) (RepL.hidw hD hm r)
end
theorem RepK.hidw (hD : D ∈ ρ.hd) (hm : ∃ u, H D = some u ∧ isMutO u) : ∀ {kvs : List (Key × V)} {kws : List (Key × W)}, RepK K H ρ st kvs kws → RepK K (upd H D o) ρ st kvs kws
  | [], [], _ => trivial
  | (k, v) :: kvs, (j, w) :: kws, h => ⟨h.1, h.2.1.hidw hD hm, RepK.hidw hD hm h.2.2⟩
  | [], _ :: _, h => h.elim
  | _ :: _, [], h => h.elim
/-- what was hidden is hidden no more -/
def Pl.show (ρ : Pl) (D : Addr) : Pl := ⟨ρ.pl, ρ.hd.filter fun a => decide (a ≠ D)⟩
theorem show_sub {a : Addr} (h : a ∈ (ρ.show D).hd) : a ∈ ρ.hd := (List.mem_filter.mp h).1
theorem show_not : D ∉ (ρ.show D).hd := fun h => by simpa using (List.mem_filter.mp h).2
theorem show_mem {a : Addr} (h : a ∈ ρ.hd) (ne : a ≠ D) : a ∈ (ρ.show D).hd := List.mem_filter.mpr ⟨h, by simpa using ne⟩
theorem NL.shown {a : Addr} (n : NL ρ st a) : NL (ρ.show D) st a := ⟨n.1, fun h => n.2 (show_sub h)⟩
mutual
theorem Rep.shown : ∀ {v : V} {w : W}, Rep K H ρ st v w → Rep K H (ρ.show D) st v w
  | _, _, .non => .non
  | _, _, .bl b => .bl b
  | _, _, .int i => .int i
  | _, _, .str x => .str x
  | _, _, .raw v => .raw v
  | _, _, .tup h r => .tup h (RepL.shown r)
  | _, _, .fl h n r => .fl h n.shown (RepL.shown r)
  | _, _, .kl h r => .kl (by
      rcases h with ⟨h, n⟩ | h
      · exact .inl ⟨h, n.shown⟩
      · exact .inr h) (RepL.shown r)
  | _, _, .loc h => .loc h
theorem RepL.shown : ∀ {vs : List V} {ws : List W}, RepL K H ρ st vs ws → RepL K H (ρ.show D) st vs ws
  | _, _, .nil => .nil
  | _, _, .cons h r => .cons (Rep.shown h) (RepL.shown r)
end
theorem RepK.shown : ∀ {kvs : List (Key × V)} {kws : List (Key × W)}, RepK K H ρ st kvs kws → RepK K H (ρ.show D) st kvs kws
  | [], [], _ => trivial
  | (k, v) :: kvs, (j, w) :: kws, h => ⟨h.1, h.2.1.shown, RepK.shown h.2.2⟩
  | [], _ :: _, h => h.elim
  | _ :: _, [], h => h.elim
theorem RelS.shown (S : RelS C H ρ st) : RelS C H (ρ.show D) st := by
  refine ⟨S.len, S.inj, fun l a u h e => ?_, fun a h => S.hid a (show_sub h)⟩
  have q := S.obj l a u h e
  cases u with
  | dead => exact q
  | lst ws => obtain ⟨vs, q, r⟩ := q; exact ⟨vs, q, r.shown⟩
  | ins c fs => obtain ⟨Cd, nm, dx, fvs, q1, q2, r1, r2, r3⟩ := q; exact ⟨Cd, nm, dx, fvs, q1, q2, r1, fun i f w a b => let ⟨v, e, r⟩ := r2 i f w a b; ⟨v, e, r.shown⟩, r3⟩
  | dct kws => obtain ⟨kvs, q, r⟩ := q; exact ⟨kvs, q, RepK.shown r⟩
theorem RelS.hidw (S : RelS C H ρ st) (hD : D ∈ ρ.hd) (ho : isMutO o) : RelS C (upd H D o) ρ st := by
  obtain ⟨hm, nD⟩ := S.hid D hD
  refine ⟨S.len, S.inj, fun l a u h e => ?_, fun a h => ?_⟩
  · have ne : a ≠ D := fun z => nD l (by rw [← z]; exact h)
    have q := S.obj l a u h e
    cases u with
    | dead => obtain ⟨u, q⟩ := q; exact ⟨u, (upd_ne ne).trans q⟩
    | lst ws => obtain ⟨vs, q, r⟩ := q; exact ⟨vs, (upd_ne ne).trans q, r.hidw hD hm⟩
    | ins c fs => obtain ⟨Cd, nm, dx, fvs, q1, q2, r1, r2, r3⟩ := q; exact ⟨Cd, nm, dx, fvs, q1, (upd_ne ne).trans q2, r1, fun i f w a b => let ⟨v, e, r⟩ := r2 i f w a b; ⟨v, e, r.hidw hD hm⟩, r3⟩
    | dct kws => obtain ⟨kvs, q, r⟩ := q; exact ⟨kvs, (upd_ne ne).trans q, RepK.hidw hD hm r⟩
  · by_cases z : a = D
    · rw [z]; exact ⟨⟨o, upd_same, ho⟩, nD⟩
    · obtain ⟨⟨u, e, m⟩, q⟩ := S.hid a h
      exact ⟨⟨u, (upd_ne z).trans e, m⟩, q⟩
end

/-- the slots -/
def RelE (K : PySem.W.Frag) (H : Hp) (ρ : Pl) (st : Sto) (σ : St) (env : En) : Prop :=
  env.length = σ.length ∧ ∀ (i : Nat) (w : W), env[i]? = some (some w) → ∃ v, σ[i]? = some (some v) ∧ Rep K H ρ st v w
section
variable {K : PySem.W.Frag} {H H' : Hp} {ρ ρ' : Pl} {st st' : Sto} {σ : St} {env : En}
theorem RelE.evo (E : Evo H ρ st H' ρ' st') (L : Liv H ρ st) (h : RelE K H ρ st σ env) : RelE K H' ρ' st' σ env :=
  ⟨h.1, fun i w e => let ⟨v, q, r⟩ := h.2 i w e; ⟨v, q, r.evo E L⟩⟩
theorem RelE.set (h : RelE K H ρ st σ env) {v : V} {w : W} (r : Rep K H ρ st v w) (i : Nat) : RelE K H ρ st (σ.set i (some v)) (env.set i (some w)) := by
  refine ⟨by simp [h.1], fun j x e => ?_⟩
  by_cases z : i = j
  · subst z
    have hi : i < env.length := by
      have := (List.getElem?_eq_some_iff.mp e).1
      simpa using this
    rw [List.getElem?_set_self hi] at e
    cases e
    exact ⟨v, by rw [List.getElem?_set_self (by rw [← h.1]; exact hi)], r⟩
  · rw [List.getElem?_set_ne z] at e
    obtain ⟨v, q, r⟩ := h.2 j x e
    exact ⟨v, by rw [List.getElem?_set_ne z]; exact q, r⟩
end

/-- what a result is worth -/
def Post {α β : Type} (rel : Hp → Pl → Sto → β → α → Prop) (C : MC) (E : XK) (H : Hp) (ρ : Pl) (st : Sto) (r : R α) (Q : β → Hp → Prop) : Prop :=
  match r with
  | .ok w st' => ∀ H' ρ' v, Evo H ρ st H' ρ' st' → RelS C H' ρ' st' → rel H' ρ' st' v w → Q v H'
  | .ex c st' => ∀ H' ρ' a, Evo H ρ st H' ρ' st' → RelS C H' ρ' st' → C.exn[c]? = some a → E (.ref a) none H'
  | .no => False
section
variable {α β γ δ : Type} {rel : Hp → Pl → Sto → β → α → Prop} {rel' : Hp → Pl → Sto → δ → γ → Prop} {C : MC} {E : XK} {H H1 : Hp} {ρ ρ1 : Pl} {st st1 : Sto} {r : R α} {Q : β → Hp → Prop}
theorem Post.shift (h : Post rel C E H ρ st r Q) (e : Evo H ρ st H1 ρ1 st1) : Post rel C E H1 ρ1 st1 r Q := by
  cases r with
  | ok w st' => exact fun H' ρ' v e' s q => h H' ρ' v (e.trans e') s q
  | ex c st' => exact fun H' ρ' a e' s q => h H' ρ' a (e.trans e') s q
  | no => exact h
theorem Post.bind {f : α → Sto → R γ} {Q' : δ → Hp → Prop} (h : Post rel' C E H ρ st (r.bind f) Q')
    (k : ∀ (w : α) (st1 : Sto) (H1 : Hp) (ρ1 : Pl) (v : β), r = .ok w st1 → Evo H ρ st H1 ρ1 st1 → RelS C H1 ρ1 st1 → rel H1 ρ1 st1 v w → Post rel' C E H1 ρ1 st1 (f w st1) Q' → Q v H1) : Post rel C E H ρ st r Q := by
  cases r with
  | ok w st' => exact fun H' ρ' v e s q => k w st' H' ρ' v rfl e s q (Post.shift (h : Post rel' C E H ρ st (f w st') Q') e)
  | ex c st' => exact h
  | no => exact h
theorem Post.imp {Q' : β → Hp → Prop} (h : Post rel C E H ρ st r Q) (k : ∀ v H, Q v H → Q' v H) : Post rel C E H ρ st r Q' := by
  cases r with
  | ok w st' => exact fun H' ρ' v e s q => k _ _ (h H' ρ' v e s q)
  | ex c st' => exact h
  | no => exact h
end
abbrev relW (C : MC) : Hp → Pl → Sto → V → W → Prop := fun H ρ st v w => Rep C.K H ρ st v w
abbrev relWs (C : MC) : Hp → Pl → Sto → List V → List W → Prop := fun H ρ st v w => RepL C.K H ρ st v w
abbrev relB : Hp → Pl → Sto → Bool → Bool → Prop := fun _ _ _ v w => v = w
abbrev relI : Hp → Pl → Sto → Option Int → Option Int → Prop := fun _ _ _ v w => v = w

def tM (C : MC) (E : XK) (m : Ex) : TE := fun σ H Q => ∃ ρ st env, RelE C.K H ρ st σ env ∧ RelS C H ρ st ∧ Post (relW C) C E H ρ st (m env st) Q
def tMB (C : MC) (E : XK) (m : Bx) : TT := fun σ H Q => ∃ ρ st env, RelE C.K H ρ st σ env ∧ RelS C H ρ st ∧ Post relB C E H ρ st (m env st) Q
def tMA (C : MC) (E : XK) (m : Ax) : TA := fun σ H Q => ∃ ρ st env, RelE C.K H ρ st σ env ∧ RelS C H ρ st ∧ Post (relWs C) C E H ρ st (m env st) Q
def PostS (C : MC) (E : XK) (H : Hp) (ρ : Pl) (st : Sto) (r : SR) (D : Ends) : Prop :=
  match r with
  | .nx env' st' => ∀ H' ρ' σ', Evo H ρ st H' ρ' st' → RelS C H' ρ' st' → RelE C.K H' ρ' st' σ' env' → D.nx σ' H'
  | .bk env' st' => ∀ H' ρ' σ', Evo H ρ st H' ρ' st' → RelS C H' ρ' st' → RelE C.K H' ρ' st' σ' env' → D.bk σ' H'
  | .ct env' st' => ∀ H' ρ' σ', Evo H ρ st H' ρ' st' → RelS C H' ρ' st' → RelE C.K H' ρ' st' σ' env' → D.ct σ' H'
  | .rt w st' => ∀ H' ρ' v, Evo H ρ st H' ρ' st' → RelS C H' ρ' st' → Rep C.K H' ρ' st' v w → D.rt v H'
  | .ex c st' => ∀ H' ρ' a, Evo H ρ st H' ρ' st' → RelS C H' ρ' st' → C.exn[c]? = some a → E (.ref a) none H'
  | .no => False
def tMS (C : MC) (E : XK) (m : Sx) : TS := fun D σ H => ∃ ρ st env, RelE C.K H ρ st σ env ∧ RelS C H ρ st ∧ PostS C E H ρ st (m env st) D
theorem PostS.shift {C : MC} {E : XK} {H H1 : Hp} {ρ ρ1 : Pl} {st st1 : Sto} {r : SR} {D : Ends} (h : PostS C E H ρ st r D) (e : Evo H ρ st H1 ρ1 st1) : PostS C E H1 ρ1 st1 r D := by
  cases r with
  | nx w st' => exact fun H' ρ' v e' s q => h H' ρ' v (e.trans e') s q
  | bk w st' => exact fun H' ρ' v e' s q => h H' ρ' v (e.trans e') s q
  | ct w st' => exact fun H' ρ' v e' s q => h H' ρ' v (e.trans e') s q
  | rt w st' => exact fun H' ρ' v e' s q => h H' ρ' v (e.trans e') s q
  | ex c st' => exact fun H' ρ' a e' s q => h H' ρ' a (e.trans e') s q
  | no => exact h
/-- from an expression to a statement -/
def R.toS {α : Type} (r : R α) (f : α → Sto → SR) : SR := match r with
  | .ok a s => f a s
  | .ex c s => .ex c s
  | .no => .no
@[simp] theorem R.toS_ok {α : Type} (a : α) (s : Sto) (f : α → Sto → SR) : (R.ok a s).toS f = f a s := rfl
@[simp] theorem R.toS_ex {α : Type} (c : Nat) (s : Sto) (f : α → Sto → SR) : (R.ex c s).toS f = .ex c s := rfl
@[simp] theorem R.toS_no {α : Type} (f : α → Sto → SR) : (R.no : R α).toS f = .no := rfl
@[simp] theorem R.toS_ite {α : Type} (c : Prop) [Decidable c] (a b : R α) (f : α → Sto → SR) : (if c then a else b).toS f = if c then a.toS f else b.toS f := by split <;> rfl
theorem PostS.bind {α β : Type} {rel : Hp → Pl → Sto → β → α → Prop} {C : MC} {E : XK} {H : Hp} {ρ : Pl} {st : Sto} {r : R α} {f : α → Sto → SR} {D : Ends} {Q : β → Hp → Prop} (h : PostS C E H ρ st (r.toS f) D)
    (k : ∀ (w : α) (st1 : Sto) (H1 : Hp) (ρ1 : Pl) (v : β), r = .ok w st1 → Evo H ρ st H1 ρ1 st1 → RelS C H1 ρ1 st1 → rel H1 ρ1 st1 v w → PostS C E H1 ρ1 st1 (f w st1) D → Q v H1) : Post rel C E H ρ st r Q := by
  cases r with
  | ok w st' => exact fun H' ρ' v e s q => k w st' H' ρ' v rfl e s q (PostS.shift (h : PostS C E H ρ st (f w st') D) e)
  | ex c st' => exact h
  | no => exact h

/-! ### the judgements -/
def ME (X : Cx) (C : MC) (E : XK) (e : Expr) (m : Ex) : Prop := PE X e (tM C E m)
def MT (X : Cx) (C : MC) (E : XK) (e : Expr) (m : Bx) : Prop := PT X e (tMB C E m)
def MW (X : Cx) (C : MC) (E : XK) (e : Expr) (m : Bx) : Prop := PW X e (tMB C E m)
def MA (X : Cx) (C : MC) (E : XK) (es : List Expr) (m : Ax) : Prop := PA X es (tMA C E m)
def MS (X : Cx) (C : MC) (E : XK) (s : Stmt) (m : Sx) : Prop := PS X s (tMS C E m)
def MSs (X : Cx) (C : MC) (E : XK) (s : List Stmt) (m : Sx) : Prop := PSs X s (tMS C E m)
theorem PE.imp {X : Cx} {e : Expr} {t t' : TE} (h : PE X e t) (k : ∀ σ H Q, t' σ H Q → t σ H Q) : PE X e t' := ⟨fun pins s σ H Q I q => h.run pins s σ H Q I (k _ _ _ q)⟩
theorem PT.imp {X : Cx} {e : Expr} {t t' : TT} (h : PT X e t) (k : ∀ σ H Q, t' σ H Q → t σ H Q) : PT X e t' := ⟨fun pins s σ H Q I q => h.run pins s σ H Q I (k _ _ _ q)⟩
theorem PW.imp {X : Cx} {e : Expr} {t t' : TT} (h : PW X e t) (k : ∀ σ H Q, t' σ H Q → t σ H Q) : PW X e t' := ⟨fun wh pins s σ H Q I q => h.run wh pins s σ H Q I (k _ _ _ q)⟩
theorem PA.imp {X : Cx} {e : List Expr} {t t' : TA} (h : PA X e t) (k : ∀ σ H Q, t' σ H Q → t σ H Q) : PA X e t' := ⟨fun ps pins s σ H Q I q => h.run ps pins s σ H Q I (k _ _ _ q)⟩
theorem PS.imp {X : Cx} {e : Stmt} {t t' : TS} (h : PS X e t) (k : ∀ D σ H, t' D σ H → t D σ H) : PS X e t' := ⟨fun pins s σ H D I q => h.run pins s σ H D I (k _ _ _ q)⟩
theorem PSs.imp {X : Cx} {e : List Stmt} {t t' : TS} (h : PSs X e t) (k : ∀ D σ H, t' D σ H → t D σ H) : PSs X e t' := ⟨fun pins s σ H D I q => h.run pins s σ H D I (k _ _ _ q)⟩
end ML

/-! ML2: rules for expressions -/
namespace ML
open PySem L2
noncomputable section
variable {X : Cx} {C : MC} {E : XK}

/-! ### names, constants -/
def vr (i : Nat) : Ex := fun env st => match env[i]? with
  | some (some w) => .ok w st
  | _ => .no
def kk (w : W) : Ex := fun _ st => .ok w st
theorem me_var {i : Nat} {x : Str} {pos : Pos} (h : PE X (.Name x pos) (tVar i)) : ME X C E (.Name x pos) (vr i) := by
  refine PE.imp h fun σ H Q ⟨ρ, st, env, re, S, p⟩ => ?_
  unfold vr at p
  split at p
  · rename_i w e
    obtain ⟨v, q, r⟩ := re.2 i w e
    exact ⟨v, q, p H ρ v (Evo.refl ..) S r⟩
  · exact p.elim
theorem me_c {e : Expr} {v : V} {w : W} (h : PE X e (tC v)) (r : ∀ H ρ st, Rep C.K H ρ st v w) : ME X C E e (kk w) :=
  PE.imp h fun σ H Q ⟨ρ, st, env, re, S, p⟩ => p H ρ v (Evo.refl ..) S (r ..)
theorem me_int {i : Int} {j : Nat} {pos : Pos} : ME X C E (.Constant (.int i) j pos) (kk (.int i)) := me_c pe_int fun _ _ _ => .int i
theorem me_bl {b : Bool} {j : Nat} {pos : Pos} : ME X C E (.Constant (.bool b) j pos) (kk (.bl b)) := me_c pe_bl fun _ _ _ => .bl b
theorem me_non {j : Nat} {pos : Pos} : ME X C E (.Constant .none j pos) (kk .non) := me_c pe_non fun _ _ _ => .non
theorem me_str {x : Str} {j : Nat} {pos : Pos} : ME X C E (.Constant (.str x) j pos) (kk (.str x)) := me_c pe_str fun _ _ _ => .str x
/-- a constant of the module -/
structure GC (K : PySem.W.Frag) (v : V) (w : W) : Prop where
  rep : ∀ H ρ st, Rep K H ρ st v w
theorem me_glob {x : Str} {v : V} {w : W} {u : Value} {pos : Pos} (hg : Gl X x) (hm : X.mg x = some u) (r : RelV v u) (g : GC C.K v w) (hd : (x == ("__debug__" : Str)) = false := by decide) : ME X C E (.Name x pos) (kk w) :=
  me_c (pe_glob hg hm r hd) g.rep

/-! ### operators of two values -/
def bn (f : W → W → Sto → R W) (a b : Ex) : Ex := fun env st => (a env st).bind fun x s1 => (b env s1).bind fun y s2 => f x y s2
def un (f : W → Sto → R W) (a : Ex) : Ex := fun env st => (a env st).bind fun x s1 => f x s1
/-- the rule r reads as f -/
def OpM (C : MC) (E : XK) (r : R2) (f : W → W → Sto → R W) : Prop := ∀ (H : Hp) (ρ : Pl) (st : Sto) (v u : V) (x y : W) (Q : VK),
  RelS C H ρ st → Rep C.K H ρ st v x → Rep C.K H ρ st u y → Post (relW C) C E H ρ st (f x y st) Q → r v u H Q
theorem tOp_of {r : R2} {f : W → W → Sto → R W} {ma mb : Ex} (hf : OpM C E r f) {σ : St} {H : Hp} {Q : VK} (h : tM C E (bn f ma mb) σ H Q) : tOp r (tM C E ma) (tM C E mb) σ H Q := by
  obtain ⟨ρ, st, env, re, S, p⟩ := h
  refine ⟨ρ, st, env, re, S, Post.bind p fun x s1 H1 ρ1 v _ e1 S1 r1 p1 => ?_⟩
  refine ⟨ρ1, s1, env, re.evo e1 S.liv, S1, Post.bind p1 fun y s2 H2 ρ2 u _ e2 S2 r2 p2 => ?_⟩
  exact hf H2 ρ2 s2 v u x y Q S2 (r1.evo e2 S1.liv) r2 p2
variable {a b c e : Expr} {ma mb mc : Ex} {pos : Pos}
theorem me_op {op : Operator} {r : R2} {f : W → W → Sto → R W} (ho : OpR X (binaryOp op) r) (hf : OpM C E r f) (ha : ME X C E a ma) (hb : ME X C E b mb) : ME X C E (.BinOp a op b pos) (bn f ma mb) :=
  PE.imp (pe_op ho ha hb) fun _ _ _ h => tOp_of hf h
theorem me_cmp {op : CmpOp} {r : R2} {f : W → W → Sto → R W} (ho : OpR X (compareOp op) r) (hf : OpM C E r f) (ha : ME X C E a ma) (hb : ME X C E b mb) (hm : behindInMarks op b = false) : ME X C E (.Compare a [op] [b] pos) (bn f ma mb) :=
  PE.imp (pe_cmpR ho ha hb hm) fun _ _ _ h => tOp_of hf h
/-- a bool -/
def tb (a : Ex) : Bx := fun env st => (a env st).bind fun x s1 => x.cb fun k => .ok k s1
theorem tTest_of {t : TE} {m : Ex} (k : ∀ σ H Q, tM C E m σ H Q → t σ H Q) {σ : St} {H : Hp} {Q : Bool → Hp → Prop} (h : tMB C E (tb m) σ H Q) : t σ H fun x H' => ∃ k, x = .bl k ∧ Q k H' := by
  obtain ⟨ρ, st, env, re, S, p⟩ := h
  refine k _ _ _ ⟨ρ, st, env, re, S, Post.bind p fun x s1 H1 ρ1 v _ e1 S1 r1 p1 => ?_⟩
  cases x with
  | bl k => cases r1; exact ⟨k, rfl, p1 H1 ρ1 k (Evo.refl ..) S1 rfl⟩
  | _ => exact p1.elim
theorem mt_cmp {op : CmpOp} {r : R2} {f : W → W → Sto → R W} (ho : OpR X (compareOp op) r) (hf : OpM C E r f) (ha : ME X C E a ma) (hb : ME X C E b mb) (hm : behindInMarks op b = false) : MT X C E (.Compare a [op] [b] pos) (tb (bn f ma mb)) :=
  PT.imp (pt_cmpR ho ha hb hm) fun _ _ _ h => tTest_of (fun _ _ _ h => tOp_of hf h) h
def chn (f g : W → W → Sto → R W) (a b c : Ex) : Ex := fun env st => (a env st).bind fun x s1 => (b env s1).bind fun y s2 => (f x y s2).bind fun z s3 => z.cb fun k => if k = true then (c env s3).bind fun w s4 => g y w s4 else .ok (.bl false) s3
theorem Post.of {H : Hp} {ρ : Pl} {st : Sto} {r : R W} {Q : VK} (h : Post (relW C) C E H ρ st r Q) : Post (relW C) C E H ρ st r Q := h
theorem tChain_of {r r' : R2} {f g : W → W → Sto → R W} (hf : OpM C E r f) (hg : OpM C E r' g) {σ : St} {H : Hp} {Q : VK} (h : tM C E (chn f g ma mb mc) σ H Q) : tChain r r' (tM C E ma) (tM C E mb) (tM C E mc) σ H Q := by
  obtain ⟨ρ, st, env, re, S, p⟩ := h
  refine ⟨ρ, st, env, re, S, Post.bind p fun x s1 H1 ρ1 v _ e1 S1 r1 p1 => ?_⟩
  have re1 := re.evo e1 S.liv
  refine ⟨ρ1, s1, env, re1, S1, Post.bind p1 fun y s2 H2 ρ2 u _ e2 S2 r2 p2 => ?_⟩
  have re2 := re1.evo e2 S1.liv
  refine hf H2 ρ2 s2 v u x y _ S2 (r1.evo e2 S1.liv) r2 (Post.bind p2 fun z s3 H3 ρ3 vz _ e3 S3 r3 p3 => ?_)
  cases z with
  | bl k =>
    cases r3
    refine ⟨k, rfl, ?_⟩
    cases k with
    | false => exact (if_neg (by decide)).mpr (p3 H3 ρ3 _ (Evo.refl ..) S3 (.bl false))
    | true =>
      refine (if_pos rfl).mpr ?_
      refine ⟨ρ3, s3, env, re2.evo e3 S2.liv, S3, Post.bind p3 fun w s4 H4 ρ4 vw _ e4 S4 r4 p4 => ?_⟩
      exact hg H4 ρ4 s4 u vw y w _ S4 ((r2.evo e3 S2.liv).evo e4 S3.liv) r4 p4
  | _ => exact p3.elim
theorem me_chain {op op' : CmpOp} {r r' : R2} {f g : W → W → Sto → R W} (ho : OpR X (compareOp op) r) (ho' : OpR X (compareOp op') r') (hf : OpM C E r f) (hg : OpM C E r' g) (ha : ME X C E a ma) (hb : ME X C E b mb) (hc : ME X C E c mc)
    (hm : lastMarks [op, op'] [b, c] = false := by with_unfolding_all rfl) : ME X C E (.Compare a [op, op'] [b, c] pos) (chn f g ma mb mc) :=
  PE.imp (pe_chain ho ho' ha hb hc hm) fun _ _ _ h => tChain_of hf hg h
theorem mt_chain {op op' : CmpOp} {r r' : R2} {f g : W → W → Sto → R W} (ho : OpR X (compareOp op) r) (ho' : OpR X (compareOp op') r') (hf : OpM C E r f) (hg : OpM C E r' g) (ha : ME X C E a ma) (hb : ME X C E b mb) (hc : ME X C E c mc)
    (hm : lastMarks [op, op'] [b, c] = false := by with_unfolding_all rfl) : MT X C E (.Compare a [op, op'] [b, c] pos) (tb (chn f g ma mb mc)) :=
  PT.imp (pt_chain ho ho' ha hb hc hm) fun _ _ _ h => tTest_of (fun _ _ _ h => tChain_of hf hg h) h
/-- an expression whose value is a bool, as a test -/
theorem mt_val (h : ME X C E e ma) (he : ∀ whole, isTrue e X.env whole = (do let v ← whole; standAt e.pos; holding [v] (truthy v)) := by intro _; rfl) : MT X C E e (tb ma) :=
  PT.imp (pt_val h he) fun _ _ _ h => tTest_of (fun _ _ _ h => h) h

/-! ### lists and tuples that stand -/
def lstOf (s : Sto) (w : W) : Option (List W) := match w with
  | .fl ws => some ws
  | .loc l => match s[l]? with
    | some (.lst ws) => some ws
    | _ => none
  | _ => none
def seqOf (s : Sto) (w : W) : Option (List W) := match w with
  | .tup ws => some ws
  | .kl ws => some ws
  | w => lstOf s w
theorem lstOf_rep {H : Hp} {ρ : Pl} {st : Sto} {v : V} {w : W} {ws : List W} (S : RelS C H ρ st) (r : Rep C.K H ρ st v w) (h : lstOf st w = some ws) : ∃ a vs, v = .ref a ∧ H a = some (.lst vs) ∧ RepL C.K H ρ st vs ws := by
  cases r with
  | fl h1 h2 h3 => cases h; exact ⟨_, _, rfl, h1, h3⟩
  | @loc a l h1 =>
    unfold lstOf at h
    simp only at h
    split at h
    · rename_i ws' e
      cases h
      obtain ⟨vs, q, r⟩ := S.obj l a _ h1 e
      exact ⟨a, vs, rfl, q, r⟩
    · cases h
  | _ => cases h
theorem seqOf_rep {H : Hp} {ρ : Pl} {st : Sto} {v : V} {w : W} {ws : List W} (S : RelS C H ρ st) (r : Rep C.K H ρ st v w) (h : seqOf st w = some ws) : ∃ a vs, v = .ref a ∧ (SqL C.K H a vs ∨ SqT C.K H a vs) ∧ RepL C.K H ρ st vs ws := by
  cases w with
  | tup ws' => cases r with | tup h1 h2 => cases h; exact ⟨_, _, rfl, .inr h1, h2⟩
  | kl ws' => cases r with | kl h1 h2 => cases h; exact ⟨_, _, rfl, .inl h1.seq, h2⟩
  | fl ws' => obtain ⟨a, vs, e, q, r⟩ := lstOf_rep S r (show lstOf st (.fl ws') = some ws from h); exact ⟨a, vs, e, .inl (SqL.of q), r⟩
  | loc l => obtain ⟨a, vs, e, q, r⟩ := lstOf_rep S r (show lstOf st (.loc l) = some ws from h); exact ⟨a, vs, e, .inl (SqL.of q), r⟩
  | _ => cases h
theorem fl_new {H : Hp} {ρ : Pl} {st : Sto} {p : Addr} {vs : List V} {ws : List W} (S : RelS C H ρ st) (hp : H p = none) (r : RepL C.K H ρ st vs ws) : Rep C.K (upd H p (.lst vs)) ρ st (.ref p) (.fl ws) :=
  .fl upd_same (S.nl hp) (r.evo (Evo.laid hp) S.liv)
theorem tup_new {H : Hp} {ρ : Pl} {st : Sto} {p : Addr} {vs : List V} {ws : List W} (S : RelS C H ρ st) (hp : H p = none) (r : RepL C.K H ρ st vs ws) : Rep C.K (upd H p (.tup vs)) ρ st (.ref p) (.tup ws) :=
  .tup (SqT.of upd_same) (r.evo (Evo.laid hp) S.liv)
theorem loc_new {H : Hp} {ρ : Pl} {st : Sto} {p : Addr} (S : RelS C H ρ st) {o : HO} {u : O} : Rep C.K (upd H p o) (ρ.add p) (st ++ [u]) (.ref p) (.loc st.length) :=
  .loc (by rw [← S.len]; exact add_new)
theorem lst_push {H : Hp} {ρ : Pl} {st : Sto} {p : Addr} {vs : List V} {ws : List W} (S : RelS C H ρ st) (hp : H p = none) (r : RepL C.K H ρ st vs ws) : RelS C (upd H p (.lst vs)) (ρ.add p) (st ++ [.lst ws]) :=
  S.push hp ⟨vs, upd_same, r.evo (Evo.push hp) S.liv⟩

/-! ### the operators -/
theorem szL {n : Nat} (h : n ≤ 10000000) : n ≤ sizeLine := Nat.le_trans h (by decide)
def addW (x y : W) (s : Sto) : R W := match x, y with
  | .int i, .int j => .ok (.int (i + j)) s
  | .str i, .str j => if ck (i.length + j.length ≤ 10000000) = true then .ok (.str (i ++ j)) s else .no
  | .tup xs, .tup ys => if ck (xs ≠ [] ∧ xs.length + ys.length ≤ 10000000) = true then .ok (.tup (xs ++ ys)) s else .no
  | x, y => match lstOf s x, lstOf s y with
    | some xs, some ys => if ck (xs.length + ys.length ≤ 10000000) = true then .ok (.fl (xs ++ ys)) s else .no
    | _, _ => .no
def rAddU (K : PySem.W.Frag) : R2 := fun x y H Q => (rI0 (fun i j => .int (i + j)) x y H Q ∨ (∃ i j, x = .str i ∧ y = .str j ∧ i.length + j.length ≤ sizeLine ∧ Q (.str (i ++ j)) H)) ∨ (rCatT K x y H Q ∨ rCat x y H Q)
theorem or_add : OpR X (binaryOp .Add) (rAddU X.K) := (op_add.or op_add_str).or (op_catT.or op_cat)
theorem om_add : OpM C E (rAddU C.K) addW := by
  intro H ρ st v u x y Q S rx ry p
  unfold addW at p
  split at p
  · cases rx; cases ry
    exact .inl (.inl ⟨_, _, rfl, rfl, p H ρ _ (Evo.refl ..) S (.int _)⟩)
  · cases rx; cases ry
    split at p
    · rename_i h
      exact .inl (.inr ⟨_, _, rfl, rfl, szL (ck_iff.mp h), p H ρ _ (Evo.refl ..) S (.str _)⟩)
    · exact p.elim
  · cases rx with
    | tup h1 h2 =>
      cases ry with
      | tup h3 h4 =>
        split at p
        · rename_i xs ys h
          have nn : ∀ {us : List V} {ws : List W}, RepL C.K H ρ st us ws → (us = [] ↔ ws = []) := fun r => by cases r <;> simp
          have h := ck_iff.mp h
          refine .inr (.inl ⟨_, _, _, _, rfl, rfl, h1, h3, fun z => h.1 ((nn h2).mp z), by rw [h2.length, h4.length]; exact szL h.2, fun z => ?_, fun z q hq => ?_⟩)
          · refine p H ρ _ (Evo.refl ..) S (.tup h1 ?_)
            rw [(nn h4).mp z, List.append_nil]
            exact h2
          · exact p _ ρ _ (Evo.laid hq) (S.laid hq) (tup_new S hq (h2.append h4))
        · exact p.elim
  · split at p
    · rename_i xs ys e1 e2
      obtain ⟨a, vs, rfl, h1, r1⟩ := lstOf_rep S rx e1
      obtain ⟨b, us, rfl, h2, r2⟩ := lstOf_rep S ry e2
      split at p
      · rename_i h
        refine .inr (.inr ⟨_, _, _, _, rfl, rfl, h1, h2, by rw [r1.length, r2.length]; exact szL (ck_iff.mp h), fun q hq => ?_⟩)
        exact p _ ρ _ (Evo.laid hq) (S.laid hq) (fl_new S hq (r1.append r2))
      · exact p.elim
    · exact p.elim
/-- two ints -/
def intW (c : Int → Int → Bool) (g : Int → Int → W) (x y : W) (s : Sto) : R W := match x, y with
  | .int i, .int j => if c i j = true then .ok (g i j) s else .no
  | _, _ => .no
theorem om_rI {Cc : Int → Int → Prop} {c : Int → Int → Bool} {gV : Int → Int → V} {g : Int → Int → W} (hc : ∀ i j, c i j = true → Cc i j) (hr : ∀ H ρ st i j, Rep C.K H ρ st (gV i j) (g i j)) : OpM C E (rI Cc gV) (intW c g) := by
  intro H ρ st v u x y Q S rx ry p
  unfold intW at p
  split at p
  · cases rx; cases ry
    split at p
    · rename_i h
      exact ⟨_, _, rfl, rfl, hc _ _ h, p H ρ _ (Evo.refl ..) S (hr ..)⟩
    · exact p.elim
  · exact p.elim
def int0 (g : Int → Int → W) (x y : W) (s : Sto) : R W := match x, y with
  | .int i, .int j => .ok (g i j) s
  | _, _ => .no
theorem om_rI0 {gV : Int → Int → V} {g : Int → Int → W} (hr : ∀ H ρ st i j, Rep C.K H ρ st (gV i j) (g i j)) : OpM C E (rI0 gV) (int0 g) := by
  intro H ρ st v u x y Q S rx ry p
  unfold int0 at p
  split at p
  · cases rx; cases ry
    exact ⟨_, _, rfl, rfl, p H ρ _ (Evo.refl ..) S (hr ..)⟩
  · exact p.elim
abbrev subW := int0 fun i j => .int (i - j)
theorem om_sub : OpM C E (rI0 fun i j => .int (i - j)) subW := om_rI0 fun _ _ _ _ _ => .int _
def mulOk (i j : Int) : Bool := ck ((-(2 ^ 64) < i ∧ i < 2 ^ 64) ∨ (-(2 ^ 64) < j ∧ j < 2 ^ 64))
theorem mulOk_ok {i j : Int} (h : mulOk i j = true) : CMul i j := by
  unfold mulOk at h
  rw [ck_iff] at h
  exact h
/-- a product: two ints; a list some times -/
def mulW (x y : W) (s : Sto) : R W := match x, y with
  | .int i, .int j => if mulOk i j = true then .ok (.int (i * j)) s else .no
  | x, .int k => match lstOf s x with
    | some xs => if ck (-(2 ^ 63) ≤ k ∧ k < 2 ^ 63 ∧ xs.length * k.toNat ≤ 10000000) = true then .ok (.fl (List.replicate k.toNat xs).flatten) s else .no
    | none => .no
  | _, _ => .no
theorem RepL.rep {H : Hp} {ρ : Pl} {st : Sto} {vs : List V} {ws : List W} (r : RepL C.K H ρ st vs ws) : ∀ k : Nat, RepL C.K H ρ st (List.replicate k vs).flatten (List.replicate k ws).flatten
  | 0 => .nil
  | k + 1 => by
    rw [List.replicate_succ, List.flatten_cons, List.replicate_succ, List.flatten_cons]
    exact r.append (RepL.rep r k)
def rMulU : R2 := fun x y H Q => rI CMul (fun i j => .int (i * j)) x y H Q ∨ rRep x y H Q
theorem or_mul : OpR X (binaryOp .Mult) rMulU := op_mul.or op_rep
theorem om_mul : OpM C E rMulU mulW := by
  intro H ρ st v u x y Q S rx ry p
  unfold mulW at p
  split at p
  · cases rx; cases ry
    split at p
    · rename_i h
      exact .inl ⟨_, _, rfl, rfl, mulOk_ok h, p H ρ _ (Evo.refl ..) S (.int _)⟩
    · exact p.elim
  · split at p
    · rename_i e
      obtain ⟨a, vs, rfl, h1, r1⟩ := lstOf_rep S rx e
      cases ry
      split at p
      · rename_i h
        have h := ck_iff.mp h
        refine .inr ⟨_, _, _, rfl, rfl, h1, h.1, h.2.1, by rw [r1.length]; exact szL h.2.2, fun q hq => ?_⟩
        exact p _ ρ _ (Evo.laid hq) (S.laid hq) (fl_new S hq (r1.rep _))
      · exact p.elim
    · exact p.elim
  · exact p.elim
abbrev fdivW := intW (fun _ j => ck (0 < j ∧ j < 1073741824)) fun i j => .int (i / j)
theorem om_fdiv : OpM C E (rI CDiv fun i j => .int (i / j)) fdivW := om_rI (fun i j h => ck_iff.mp h) fun _ _ _ _ _ => .int _
abbrev modW := intW (fun _ j => ck (0 < j)) fun i j => .int (i % j)
theorem om_mod : OpM C E (rI (fun _ j => 0 < j) fun i j => .int (i % j)) modW := om_rI (fun _ _ h => ck_iff.mp h) fun _ _ _ _ _ => .int _
abbrev shrW := intW (fun _ j => ck (0 ≤ j)) fun i j => .int (i / 2 ^ j.toNat)
theorem om_shr : OpM C E (rI (fun _ j => 0 ≤ j) fun i j => .int (i / 2 ^ j.toNat)) shrW := om_rI (fun _ _ h => ck_iff.mp h) fun _ _ _ _ _ => .int _
abbrev andW := int0 fun i j => .int (Builtin.bitAnd i j)
theorem om_and : OpM C E (rI0 fun i j => .int (Builtin.bitAnd i j)) andW := om_rI0 fun _ _ _ _ _ => .int _
abbrev orW := int0 fun i j => .int (Builtin.bitOr i j)
theorem om_or : OpM C E (rI0 fun i j => .int (Builtin.bitOr i j)) orW := om_rI0 fun _ _ _ _ _ => .int _
abbrev ltW := int0 fun i j => .bl (decide (i < j))
theorem om_lt : OpM C E (rI0 fun i j => .bl (decide (i < j))) ltW := om_rI0 fun _ _ _ _ _ => .bl _
abbrev leW := int0 fun i j => .bl (decide (i ≤ j))
theorem om_le : OpM C E (rI0 fun i j => .bl (decide (i ≤ j))) leW := om_rI0 fun _ _ _ _ _ => .bl _
abbrev gtW := int0 fun i j => .bl (decide (j < i))
theorem om_gt : OpM C E (rI0 fun i j => .bl (decide (j < i))) gtW := om_rI0 fun _ _ _ _ _ => .bl _
abbrev geW := int0 fun i j => .bl (decide (j ≤ i))
theorem om_ge : OpM C E (rI0 fun i j => .bl (decide (j ≤ i))) geW := om_rI0 fun _ _ _ _ _ => .bl _
/-- unary -/
def UnM (C : MC) (E : XK) (r : V → Hp → VK → Prop) (f : W → Sto → R W) : Prop := ∀ (H : Hp) (ρ : Pl) (st : Sto) (v : V) (x : W) (Q : VK),
  RelS C H ρ st → Rep C.K H ρ st v x → Post (relW C) C E H ρ st (f x st) Q → r v H Q
theorem tUn_of {r : V → Hp → VK → Prop} {f : W → Sto → R W} (hf : UnM C E r f) {σ : St} {H : Hp} {Q : VK} (h : tM C E (un f ma) σ H Q) : tUn r (tM C E ma) σ H Q := by
  obtain ⟨ρ, st, env, re, S, p⟩ := h
  exact ⟨ρ, st, env, re, S, Post.bind p fun x s1 H1 ρ1 v _ e1 S1 r1 p1 => hf H1 ρ1 s1 v x Q S1 r1 p1⟩
def negW (x : W) (s : Sto) : R W := match x with
  | .int i => .ok (.int (-i)) s
  | _ => .no
theorem om_neg : UnM C E (rU fun i => .int (-i)) negW := by
  intro H ρ st v x Q S rx p
  unfold negW at p
  split at p
  · cases rx; exact ⟨_, rfl, p H ρ _ (Evo.refl ..) S (.int _)⟩
  · exact p.elim
theorem me_neg (ha : ME X C E a ma) : ME X C E (.UnaryOp .USub a pos) (un negW ma) := PE.imp (pe_un un_neg ha) fun _ _ _ h => tUn_of om_neg h

/-! ### equality -/
mutual
def datW : W → Option PyData
  | .non => some .none
  | .bl b => some (.bool b)
  | .int i => some (.int i)
  | .str x => some (.str x)
  | .tup ws => (datL ws).map .tuple
  | .fl ws => (datL ws).map .list
  | .kl ws => (datL ws).map .list
  | .raw _ => none
  | .loc _ => none
def datL : List W → Option (List PyData)
  | [] => some []
  | w :: ws => match datW w, datL ws with
    | some d, some ds => some (d :: ds)
    | _, _ => none
end
/-- a list that can be changed counts with what it holds now; what it holds: lists again, to a depth -/
def datS (s : Sto) : Nat → W → Option PyData
  | 0, w => datW w
  | n + 1, w => match lstOf s w with
    | some ws => ((ws.mapM (datS s n)).map .list)
    | none => datW w
theorem datW_rep {H : Hp} {ρ : Pl} {st : Sto} : (∀ (w : W) (v : V) (d : PyData), Rep C.K H ρ st v w → datW w = some d → Dp C.K H v d) := by
  intro w
  refine W.rec (motive_1 := fun w => ∀ (v : V) (d : PyData), Rep C.K H ρ st v w → datW w = some d → Dp C.K H v d) (motive_2 := fun ws => ∀ (vs : List V) (ds : List PyData), RepL C.K H ρ st vs ws → datL ws = some ds → DpAll C.K H vs ds)
    ?_ ?_ ?_ ?_ ?_ ?_ ?_ ?_ ?_ ?_ ?_ w
  · intro v d r h; cases r; simp [datW] at h; subst h; exact .non
  · intro b v d r h; cases r; simp [datW] at h; subst h; exact .bl b
  · intro b v d r h; cases r; simp [datW] at h; subst h; exact .int b
  · intro b v d r h; cases r; simp [datW] at h; subst h; exact .str b
  · intro b v d r h; simp [datW] at h
  · intro ws ih v d r h
    cases r with
    | tup h1 h2 =>
      simp only [datW, Option.map_eq_some_iff] at h
      obtain ⟨ds, e, rfl⟩ := h
      exact .tup h1 (ih _ _ h2 e)
  · intro ws ih v d r h
    cases r with
    | fl h1 _ h2 =>
      simp only [datW, Option.map_eq_some_iff] at h
      obtain ⟨ds, e, rfl⟩ := h
      exact .lst (SqL.of h1) (ih _ _ h2 e)
  · intro ws ih v d r h
    cases r with
    | kl h1 h2 =>
      simp only [datW, Option.map_eq_some_iff] at h
      obtain ⟨ds, e, rfl⟩ := h
      exact .lst h1.seq (ih _ _ h2 e)
  · intro l v d r h; simp [datW] at h
  · intro vs ds r h; cases r; simp [datL] at h; subst h; exact .nil
  · intro w ws ih1 ih2 vs ds r h
    cases r with
    | cons h1 h2 =>
      simp only [datL] at h
      split at h
      · rename_i d ds' e1 e2
        cases h
        exact .cons (ih1 _ _ h1 e1) (ih2 _ _ h2 e2)
      · cases h
theorem datS_rep {H : Hp} {ρ : Pl} {st : Sto} (S : RelS C H ρ st) : ∀ (n : Nat) (w : W) (v : V) (d : PyData), Rep C.K H ρ st v w → datS st n w = some d → Dp C.K H v d
  | 0, w, v, d, r, h => datW_rep w v d r h
  | n + 1, w, v, d, r, h => by
    unfold datS at h
    split at h
    · rename_i ws e
      obtain ⟨a, vs, rfl, h1, r1⟩ := lstOf_rep S r e
      simp only [Option.map_eq_some_iff] at h
      obtain ⟨ds, e2, rfl⟩ := h
      refine .lst (SqL.of h1) ?_
      clear r h1 e
      induction ws generalizing vs ds with
      | nil => cases r1; simp at e2; subst e2; exact .nil
      | cons w ws ih =>
        cases r1 with
        | cons q1 q2 =>
          rw [List.mapM_cons] at e2
          cases e3 : datS st n w with
          | none => rw [e3] at e2; simp at e2
          | some d =>
            rw [e3] at e2
            cases e4 : ws.mapM (datS st n) with
            | none => rw [e4] at e2; simp at e2
            | some ds' =>
              rw [e4] at e2
              simp at e2
              subst e2
              exact .cons (datS_rep S n w _ d q1 e3) (ih _ q2 _ e4)
    · exact datW_rep w v d r h
def eqW (x y : W) (s : Sto) : R W := match datS s 3 x, datS s 3 y with
  | some d, some e => if SeqAt.shaped d = true ∧ SeqAt.shaped e = true then .ok (.bl (PyData.eqv d e)) s else .no
  | _, _ => .no
def neW (x y : W) (s : Sto) : R W := match datS s 3 x, datS s 3 y with
  | some d, some e => if SeqAt.shaped d = true ∧ SeqAt.shaped e = true then .ok (.bl (!PyData.eqv d e)) s else .no
  | _, _ => .no
theorem om_eq : OpM C E (rEqD C.K) eqW := by
  intro H ρ st v u x y Q S rx ry p
  unfold eqW at p
  split at p
  · rename_i d e hd he
    split at p
    · rename_i h
      exact ⟨d, e, datS_rep S 3 x v d rx hd, datS_rep S 3 y u e ry he, h.1, h.2, p H ρ _ (Evo.refl ..) S (.bl _)⟩
    · exact p.elim
  · exact p.elim
theorem om_ne : OpM C E (rNeD C.K) neW := by
  intro H ρ st v u x y Q S rx ry p
  unfold neW at p
  split at p
  · rename_i d e hd he
    split at p
    · rename_i h
      exact ⟨d, e, datS_rep S 3 x v d rx hd, datS_rep S 3 y u e ry he, h.1, h.2, p H ρ _ (Evo.refl ..) S (.bl _)⟩
    · exact p.elim
  · exact p.elim
/-- in, not in: flat items -/
def flatW : W → Bool
  | .non => true | .bl _ => true | .int _ => true | .str _ => true | _ => false
def veqW : W → W → Bool
  | .non, .non => true
  | .bl a, .bl b => a == b
  | .int i, .int j => i == j
  | .bl a, .int i => (if a then (1 : Int) else 0) == i
  | .int i, .bl a => i == (if a then (1 : Int) else 0)
  | .str x, .str y => x == y
  | _, _ => false
theorem flat_of {H : Hp} {ρ : Pl} {st : Sto} {v : V} {w : W} (r : Rep C.K H ρ st v w) (f : flatW w = true) : flatV v = true := by
  cases r with
  | non => rfl
  | bl b => rfl
  | int b => rfl
  | str b => rfl
  | _ => simp [flatW] at f
def inW (x y : W) (s : Sto) : R W := match seqOf s y with
  | some ys => if flatW x = true ∧ ys.all flatW = true then .ok (.bl (ys.any fun z => veqW z x)) s else .no
  | none => .no
def ninW (x y : W) (s : Sto) : R W := match seqOf s y with
  | some ys => if flatW x = true ∧ ys.all flatW = true then .ok (.bl (!(ys.any fun z => veqW z x))) s else .no
  | none => .no
theorem veq_of {H : Hp} {ρ : Pl} {st : Sto} {v u : V} {x y : W} (rx : Rep C.K H ρ st v x) (ry : Rep C.K H ρ st u y) (fx : flatW x = true) (fy : flatW y = true) : eqV v u = veqW x y := by
  cases rx <;> first | (simp [flatW] at fx; done) | (cases ry <;> first | (simp [flatW] at fy; done) | rfl)
theorem inV_of {H : Hp} {ρ : Pl} {st : Sto} {v : V} {x : W} (rx : Rep C.K H ρ st v x) (fx : flatW x = true) : ∀ {vs : List V} {ys : List W}, RepL C.K H ρ st vs ys → ys.all flatW = true → vs.all flatV = true ∧ inV v vs = ys.any fun z => veqW z x
  | _, _, .nil, _ => ⟨rfl, rfl⟩
  | _, _, .cons h r, f => by
    rw [List.all_cons, Bool.and_eq_true] at f
    obtain ⟨h1, h2⟩ := inV_of rx fx r f.2
    refine ⟨by rw [List.all_cons, flat_of h f.1, h1]; rfl, ?_⟩
    unfold inV at h2 ⊢
    rw [List.any_cons, List.any_cons, h2, veq_of h rx f.1 fx]
theorem om_in : OpM C E (rIn C.K false) inW := by
  intro H ρ st v u x y Q S rx ry p
  unfold inW at p
  split at p
  · rename_i ys e
    split at p
    · rename_i h
      obtain ⟨a, vs, rfl, q, r⟩ := seqOf_rep S ry e
      obtain ⟨h1, h2⟩ := inV_of rx h.1 r h.2
      refine ⟨a, vs, rfl, q, flat_of rx h.1, h1, ?_⟩
      rw [h2]
      exact p H ρ _ (Evo.refl ..) S (.bl _)
    · exact p.elim
  · exact p.elim
theorem om_nin : OpM C E (rIn C.K true) ninW := by
  intro H ρ st v u x y Q S rx ry p
  unfold ninW at p
  split at p
  · rename_i ys e
    split at p
    · rename_i h
      obtain ⟨a, vs, rfl, q, r⟩ := seqOf_rep S ry e
      obtain ⟨h1, h2⟩ := inV_of rx h.1 r h.2
      refine ⟨a, vs, rfl, q, flat_of rx h.1, h1, ?_⟩
      rw [h2]
      exact p H ρ _ (Evo.refl ..) S (.bl _)
    · exact p.elim
  · exact p.elim
end
end ML

/-! ML3: tests, displays, built-ins, items, slices, methods, fields -/
namespace ML
open PySem L2
noncomputable section
variable {X : Cx} {C : MC} {E : XK} {a b c e o : Expr} {ma mb mc mo : Ex} {pos : Pos}

/-! ### and, or, not -/
def andE (a b : Ex) : Ex := fun env st => (a env st).bind fun x s1 => x.cb fun k => if k = true then b env s1 else .ok (.bl false) s1
def orE (a b : Ex) : Ex := fun env st => (a env st).bind fun x s1 => x.cb fun k => if k = true then .ok (.bl true) s1 else b env s1
def notW (x : W) (s : Sto) : R W := match x with
  | .bl k => .ok (.bl (!k)) s
  | _ => .no
theorem me_one {op} (h : ME X C E a ma) : ME X C E (.BoolOp op [a] pos) ma := pe_one h
theorem me_and {rest : List Expr} (ha : ME X C E a ma) (hb : ME X C E (.BoolOp .And (b :: rest) pos) mb) : ME X C E (.BoolOp .And (a :: b :: rest) pos) (andE ma mb) := by
  refine PE.imp (pe_and ha hb) fun σ H Q ⟨ρ, st, env, re, S, p⟩ => ⟨ρ, st, env, re, S, Post.bind p fun x s1 H1 ρ1 v _ e1 S1 r1 p1 => ?_⟩
  cases x with
  | bl k =>
    cases r1
    refine ⟨k, rfl, ?_⟩
    cases k with
    | true => exact (if_pos rfl).mpr ⟨ρ1, s1, env, re.evo e1 S.liv, S1, p1⟩
    | false => exact (if_neg (by decide)).mpr (p1 H1 ρ1 _ (Evo.refl ..) S1 (.bl false))
  | _ => exact p1.elim
theorem me_or {rest : List Expr} (ha : ME X C E a ma) (hb : ME X C E (.BoolOp .Or (b :: rest) pos) mb) : ME X C E (.BoolOp .Or (a :: b :: rest) pos) (orE ma mb) := by
  refine PE.imp (pe_or ha hb) fun σ H Q ⟨ρ, st, env, re, S, p⟩ => ⟨ρ, st, env, re, S, Post.bind p fun x s1 H1 ρ1 v _ e1 S1 r1 p1 => ?_⟩
  cases x with
  | bl k =>
    cases r1
    refine ⟨k, rfl, ?_⟩
    cases k with
    | true => exact (if_pos rfl).mpr (p1 H1 ρ1 _ (Evo.refl ..) S1 (.bl true))
    | false => exact (if_neg (by decide)).mpr ⟨ρ1, s1, env, re.evo e1 S.liv, S1, p1⟩
  | _ => exact p1.elim
theorem me_not (ha : ME X C E a ma) : ME X C E (.UnaryOp .Not a pos) (un notW ma) := by
  refine PE.imp (pe_not ha) fun σ H Q ⟨ρ, st, env, re, S, p⟩ => ⟨ρ, st, env, re, S, Post.bind p fun x s1 H1 ρ1 v _ e1 S1 r1 p1 => ?_⟩
  cases x with
  | bl k => cases r1; exact ⟨k, rfl, p1 H1 ρ1 _ (Evo.refl ..) S1 (.bl _)⟩
  | _ => exact p1.elim
def andB (a b : Bx) : Bx := fun env st => (a env st).bind fun k s1 => if k = true then b env s1 else .ok false s1
def orB (a b : Bx) : Bx := fun env st => (a env st).bind fun k s1 => if k = true then .ok true s1 else b env s1
def notB (a : Bx) : Bx := fun env st => (a env st).bind fun k s1 => .ok (!k) s1
variable {ka kb : Bx}
theorem mw_and1 (ha : MT X C E a ka) : MW X C E (.BoolOp .And [a] pos) ka := pw_and1 ha
theorem mw_or1 (ha : MT X C E a ka) : MW X C E (.BoolOp .Or [a] pos) ka := pw_or1 ha
theorem mt_w (h : MW X C E a ka) : MT X C E a ka := PW.pt h
theorem mw_and {rest : List Expr} (ha : MT X C E a ka) (hb : MW X C E (.BoolOp .And (b :: rest) pos) kb) : MW X C E (.BoolOp .And (a :: b :: rest) pos) (andB ka kb) := by
  refine PW.imp (pw_and ha hb) fun σ H Q ⟨ρ, st, env, re, S, p⟩ => ⟨ρ, st, env, re, S, Post.bind (rel := relB) p fun x s1 H1 ρ1 v _ e1 S1 r1 p1 => ?_⟩
  have r1 : v = x := r1
  subst r1
  cases v with
  | true => exact (if_pos rfl).mpr ⟨ρ1, s1, env, re.evo e1 S.liv, S1, p1⟩
  | false => exact (if_neg (by decide)).mpr (p1 H1 ρ1 _ (Evo.refl ..) S1 rfl)
theorem mw_or {rest : List Expr} (ha : MT X C E a ka) (hb : MW X C E (.BoolOp .Or (b :: rest) pos) kb) : MW X C E (.BoolOp .Or (a :: b :: rest) pos) (orB ka kb) := by
  refine PW.imp (pw_or ha hb) fun σ H Q ⟨ρ, st, env, re, S, p⟩ => ⟨ρ, st, env, re, S, Post.bind (rel := relB) p fun x s1 H1 ρ1 v _ e1 S1 r1 p1 => ?_⟩
  have r1 : v = x := r1
  subst r1
  cases v with
  | true => exact (if_pos rfl).mpr (p1 H1 ρ1 _ (Evo.refl ..) S1 rfl)
  | false => exact (if_neg (by decide)).mpr ⟨ρ1, s1, env, re.evo e1 S.liv, S1, p1⟩
theorem mt_not (ha : MT X C E a ka) : MT X C E (.UnaryOp .Not a pos) (notB ka) := by
  refine PT.imp (pt_not ha) fun σ H Q ⟨ρ, st, env, re, S, p⟩ => ⟨ρ, st, env, re, S, Post.bind (rel := relB) p fun x s1 H1 ρ1 v _ e1 S1 r1 p1 => ?_⟩
  have r1 : v = x := r1
  subst r1
  exact p1 H1 ρ1 _ (Evo.refl ..) S1 rfl
def ifE (k : Bx) (a b : Ex) : Ex := fun env st => (k env st).bind fun k s1 => if k = true then a env s1 else b env s1
theorem me_if (hc : MT X C E c ka) (ha : ME X C E a ma) (hb : ME X C E b mb) : ME X C E (.IfExp c a b pos) (ifE ka ma mb) := by
  refine PE.imp (pe_ifExp hc ha hb) fun σ H Q ⟨ρ, st, env, re, S, p⟩ => ⟨ρ, st, env, re, S, Post.bind (rel := relB) p fun x s1 H1 ρ1 v _ e1 S1 r1 p1 => ?_⟩
  have r1 : v = x := r1
  subst r1
  cases v with
  | true => exact (if_pos rfl).mpr ⟨ρ1, s1, env, re.evo e1 S.liv, S1, p1⟩
  | false => exact (if_neg (by decide)).mpr ⟨ρ1, s1, env, re.evo e1 S.liv, S1, p1⟩
/-- the truth of a value of any kind -/
def truW (s : Sto) (w : W) : Option Bool := match w with
  | .non => some false
  | .bl b => some b
  | .int i => some (i != 0)
  | w => match seqOf s w with
    | some ws => some (!ws.isEmpty)
    | none => match w with
      | .loc l => match s[l]? with
        | some (.dct kvs) => some (!kvs.isEmpty)
        | _ => none
      | _ => none
theorem RepL.isEmpty {K : PySem.W.Frag} {H : Hp} {ρ : Pl} {st : Sto} {vs : List V} {ws : List W} (r : RepL K H ρ st vs ws) : vs.isEmpty = ws.isEmpty := by cases r <;> rfl
theorem RepK.isEmpty {K : PySem.W.Frag} {H : Hp} {ρ : Pl} {st : Sto} : ∀ {vs : List (Key × V)} {ws : List (Key × W)}, RepK K H ρ st vs ws → vs.isEmpty = ws.isEmpty
  | [], [], _ => rfl
  | _ :: _, _ :: _, _ => rfl
  | [], _ :: _, h => h.elim
  | _ :: _, [], h => h.elim
def trB (a : Ex) : Bx := fun env st => (a env st).bind fun x s1 => match truW s1 x with
  | some k => .ok k s1
  | none => .no
theorem truW_rep {H : Hp} {ρ : Pl} {st : Sto} {v : V} {w : W} {k : Bool} (S : RelS C H ρ st) (r : Rep C.K H ρ st v w) (h : truW st w = some k) : TruV C.K v H k := by
  have sq : ∀ ws, seqOf st w = some ws → k = !ws.isEmpty → TruV C.K v H k := fun ws e hk => by
    obtain ⟨a, vs, rfl, q, r⟩ := seqOf_rep S r e
    rw [← r.isEmpty] at hk
    rcases q with q | q
    · exact .inl ⟨vs, q, hk⟩
    · exact .inr (.inl ⟨vs, q, hk⟩)
  unfold truW at h
  cases w with
  | non => cases r; cases h; rfl
  | bl b => cases r; cases h; rfl
  | int i => cases r; cases h; rfl
  | str x => simp [seqOf, lstOf] at h
  | raw x => simp [seqOf, lstOf] at h
  | tup ws => exact sq ws rfl (by simpa [seqOf] using h.symm)
  | fl ws => exact sq ws rfl (by simpa [seqOf, lstOf] using h.symm)
  | kl ws => exact sq ws rfl (by simpa [seqOf] using h.symm)
  | loc l =>
    simp only at h
    split at h
    · rename_i ws e
      exact sq ws e (by simpa using h.symm)
    · split at h
      · rename_i kvs e
        cases r with
        | loc r =>
          obtain ⟨vs, q, r⟩ := S.obj l _ _ r e
          exact .inr (.inr ⟨vs, q, by rw [RepK.isEmpty r]; simpa using h.symm⟩)
      · cases h
theorem mt_truth (hK : C.K = X.K) (ha : ME X C E a ma) (he : ∀ whole, isTrue a X.env whole = (do let v ← whole; standAt a.pos; holding [v] (truthy v)) := by intro _; rfl) : MT X C E a (trB ma) := by
  refine PT.imp (pt_truth ha he) fun σ H Q ⟨ρ, st, env, re, S, p⟩ => ⟨ρ, st, env, re, S, Post.bind p fun x s1 H1 ρ1 v _ e1 S1 r1 p1 => ?_⟩
  split at p1
  · rename_i k e
    exact ⟨k, hK ▸ truW_rep S1 r1 e, p1 H1 ρ1 _ (Evo.refl ..) S1 rfl⟩
  · exact p1.elim
/-- is None, is not None -/
def isnW (x : W) (s : Sto) : R W := match x with
  | .non => .ok (.bl true) s
  | .raw _ => .no
  | _ => .ok (.bl false) s
def nonW (x : W) (s : Sto) : R W := match x with
  | .non => .ok (.bl false) s
  | .raw _ => .no
  | _ => .ok (.bl true) s
theorem me_isN {j pos'} (ha : ME X C E a ma) : ME X C E (.Compare a [.Is] [.Constant .none j pos'] pos) (un isnW ma) := by
  refine PE.imp (pe_cmp (pc_isN ha) rfl) fun σ H Q ⟨ρ, st, env, re, S, p⟩ => ⟨ρ, st, env, re, S, Post.bind p fun x s1 H1 ρ1 v _ e1 S1 r1 p1 => ?_⟩
  cases r1 <;> first | exact p1.elim | exact p1 H1 ρ1 _ (Evo.refl ..) S1 (.bl _)
theorem me_notN {j pos'} (ha : ME X C E a ma) : ME X C E (.Compare a [.IsNot] [.Constant .none j pos'] pos) (un nonW ma) := by
  refine PE.imp (pe_cmp (pc_notN ha) rfl) fun σ H Q ⟨ρ, st, env, re, S, p⟩ => ⟨ρ, st, env, re, S, Post.bind p fun x s1 H1 ρ1 v _ e1 S1 r1 p1 => ?_⟩
  cases r1 <;> first | exact p1.elim | exact p1 H1 ρ1 _ (Evo.refl ..) S1 (.bl _)

/-! ### argument lists, displays -/
structure MA' (X : Cx) (C : MC) (E : XK) (es : List Expr) (m : Ax) : Prop where
  pa : PA X es (tMA C E m)
  ln : ∀ env st ws st', m env st = .ok ws st' → ws.length = es.length
def axn : Ax := fun _ st => .ok [] st
def axc (a : Ex) (r : Ax) : Ax := fun env st => (a env st).bind fun x s1 => (r env s1).bind fun xs s2 => .ok (x :: xs) s2
theorem ma_nil : MA' X C E [] axn := by
  refine ⟨PA.imp pa_nil fun σ H Q ⟨ρ, st, env, re, S, p⟩ => p H ρ [] (Evo.refl ..) S .nil, fun env st ws st' h => ?_⟩
  cases h
  rfl
theorem ma_cons {es : List Expr} {mr : Ax} (ha : ME X C E a ma) (hr : MA' X C E es mr) (hs : starEach (a :: es) X.env = (false, eval a X.env) :: starEach es X.env := by rfl) : MA' X C E (a :: es) (axc ma mr) := by
  refine ⟨PA.imp (pa_cons ha hr.pa hs) fun σ H Q ⟨ρ, st, env, re, S, p⟩ => ⟨ρ, st, env, re, S, Post.bind p fun x s1 H1 ρ1 v _ e1 S1 r1 p1 => ?_⟩, fun env st ws st' h => ?_⟩
  · refine ⟨ρ1, s1, env, re.evo e1 S.liv, S1, Post.bind p1 fun xs s2 H2 ρ2 vs _ e2 S2 r2 p2 => ?_⟩
    exact p2 H2 ρ2 _ (Evo.refl ..) S2 (.cons (r1.evo e2 S1.liv) r2)
  · unfold axc at h
    cases h1 : ma env st with
    | ok x s1 =>
      rw [h1, R.bind_ok] at h
      cases h2 : mr env s1 with
      | ok xs s2 =>
        rw [h2, R.bind_ok] at h
        cases h
        exact congrArg (· + 1) (hr.ln _ _ _ _ h2)
      | _ => rw [h2] at h; cases h
    | _ => rw [h1] at h; cases h
variable {es : List Expr} {mr : Ax}
def tupE (m : Ax) : Ex := fun env st => (m env st).bind fun ws s => .ok (.tup ws) s
def flE (m : Ax) : Ex := fun env st => (m env st).bind fun ws s => .ok (.fl ws) s
def lsE (m : Ax) : Ex := fun env st => (m env st).bind fun ws s => .ok (.loc s.length) (s ++ [.lst ws])
theorem me_tup {x1} (h : MA' X C E es mr) (hl : es.length ≤ 1000 := by decide) : ME X C E (.Tuple es x1 pos) (tupE mr) := by
  refine PE.imp (pe_tup h.pa) fun σ H Q ⟨ρ, st, env, re, S, p⟩ => ⟨ρ, st, env, re, S, Post.bind p fun x s1 H1 ρ1 v hx e1 S1 r1 p1 => ⟨?_, fun q hq => ?_⟩⟩
  · rw [r1.length, h.ln _ _ _ _ hx]
    exact Nat.le_trans hl (by decide)
  · exact p1 _ ρ1 _ (Evo.laid hq) (S1.laid hq) (tup_new S1 hq r1)
theorem me_fl (h : MA' X C E es mr) (hl : es.length ≤ 1000 := by decide) : ME X C E (.List es pos) (flE mr) := by
  refine PE.imp (pe_lst h.pa) fun σ H Q ⟨ρ, st, env, re, S, p⟩ => ⟨ρ, st, env, re, S, Post.bind p fun x s1 H1 ρ1 v hx e1 S1 r1 p1 => ⟨?_, fun q hq => ?_⟩⟩
  · rw [r1.length, h.ln _ _ _ _ hx]
    exact Nat.le_trans hl (by decide)
  · exact p1 _ ρ1 _ (Evo.laid hq) (S1.laid hq) (fl_new S1 hq r1)
theorem me_ls (h : MA' X C E es mr) (hl : es.length ≤ 1000 := by decide) : ME X C E (.List es pos) (lsE mr) := by
  refine PE.imp (pe_lst h.pa) fun σ H Q ⟨ρ, st, env, re, S, p⟩ => ⟨ρ, st, env, re, S, Post.bind p fun x s1 H1 ρ1 v hx e1 S1 r1 p1 => ⟨?_, fun q hq => ?_⟩⟩
  · rw [r1.length, h.ln _ _ _ _ hx]
    exact Nat.le_trans hl (by decide)
  · exact p1 _ (ρ1.add q) _ (Evo.push hq) (lst_push S1 hq r1) (loc_new S1)

/-! ### built-ins by their values -/
def ClM (C : MC) (E : XK) (r : List V → Hp → VK → Prop) (f : List W → Sto → R W) : Prop := ∀ (H : Hp) (ρ : Pl) (st : Sto) (vs : List V) (ws : List W) (Q : VK),
  RelS C H ρ st → RepL C.K H ρ st vs ws → Post (relW C) C E H ρ st (f ws st) Q → r vs H Q
def clE (f : List W → Sto → R W) (m : Ax) : Ex := fun env st => (m env st).bind fun ws s => f ws s
theorem tCB_of {r : List V → Hp → VK → Prop} {f : List W → Sto → R W} (hf : ClM C E r f) {σ : St} {H : Hp} {Q : VK} (h : tM C E (clE f mr) σ H Q) : tCB r (tMA C E mr) σ H Q := by
  obtain ⟨ρ, st, env, re, S, p⟩ := h
  exact ⟨ρ, st, env, re, S, Post.bind p fun x s1 H1 ρ1 v _ e1 S1 r1 p1 => hf H1 ρ1 s1 v x Q S1 r1 p1⟩
section
variable {x : Str} {p : Pos} {id T : String} {r : List V → Hp → VK → Prop} {f : List W → Sto → R W}
theorem me_callB (hc : CallR X (.builtin id) r) (hf : ClM C E r f) (hg : Gl X x) (hm : X.mg x = none) (hv : bootBuiltins x = some (.builtin id)) (ha : MA' X C E (e :: es) mr) (hn : x ≠ "__name__" := by decide) (hdb : (x == ("__debug__" : Str)) = false := by decide)
    (he : starEach (e :: es) X.env = (false, eval e X.env) :: starEach es X.env := by rfl) (hpl : (backTo pos (starEach es X.env)).any (·.1) = false := by rfl) : ME X C E (.Call (.Name x p) (e :: es) [] pos) (clE f mr) :=
  PE.imp (pe_callB hc hg hm hv ha.pa hn hdb he hpl) fun _ _ _ h => tCB_of hf h
theorem me_callTy (hc : CallR X (.type T) r) (hf : ClM C E r f) (hg : Gl X x) (hm : X.mg x = none) (hv : bootBuiltins x = some (.type T)) (ha : MA' X C E (e :: es) mr) (hn : x ≠ "__name__" := by decide) (hdb : (x == ("__debug__" : Str)) = false := by decide)
    (he : starEach (e :: es) X.env = (false, eval e X.env) :: starEach es X.env := by rfl) (hpl : (backTo pos (starEach es X.env)).any (·.1) = false := by rfl) : ME X C E (.Call (.Name x p) (e :: es) [] pos) (clE f mr) :=
  PE.imp (pe_callTy hc hg hm hv ha.pa hn hdb he hpl) fun _ _ _ h => tCB_of hf h
end
def lenF (ws : List W) (s : Sto) : R W := match ws with
  | [w] => match seqOf s w with
    | some xs => .ok (.int xs.length) s
    | none => .no
  | _ => .no
theorem cm_len : ClM C E (fun xs H Q => ∃ p ys, xs = [.ref p] ∧ (SqL C.K H p ys ∨ SqT C.K H p ys) ∧ Q (.int ys.length) H) lenF := by
  intro H ρ st vs ws Q S rs p
  unfold lenF at p
  split at p
  · obtain ⟨v, rfl, r⟩ := rs.one
    split at p
    · rename_i xs e
      obtain ⟨a, us, rfl, q, r⟩ := seqOf_rep S r e
      refine ⟨a, us, rfl, q, ?_⟩
      rw [r.length]
      exact p H ρ _ (Evo.refl ..) S (.int _)
    · exact p.elim
  · exact p.elim
def absF (ws : List W) (s : Sto) : R W := match ws with
  | [.int i] => .ok (.int (if i < 0 then -i else i)) s
  | _ => .no
theorem cm_abs : ClM C E (fun xs H Q => ∃ i, xs = [.int i] ∧ Q (.int (if i < 0 then -i else i)) H) absF := by
  intro H ρ st vs ws Q S rs p
  unfold absF at p
  split at p
  · obtain ⟨v, rfl, r⟩ := rs.one
    cases r
    exact ⟨_, rfl, p H ρ _ (Evo.refl ..) S (.int _)⟩
  · exact p.elim
def intF (ws : List W) (s : Sto) : R W := match ws with
  | [.int i] => .ok (.int i) s
  | [.bl k] => .ok (.int (if k then 1 else 0)) s
  | _ => .no
theorem cm_int : ClM C E (fun xs H Q => (∃ i, xs = [.int i] ∧ Q (.int i) H) ∨ ∃ k, xs = [.bl k] ∧ Q (.int (if k then 1 else 0)) H) intF := by
  intro H ρ st vs ws Q S rs p
  unfold intF at p
  split at p
  · obtain ⟨v, rfl, r⟩ := rs.one
    cases r
    exact .inl ⟨_, rfl, p H ρ _ (Evo.refl ..) S (.int _)⟩
  · obtain ⟨v, rfl, r⟩ := rs.one
    cases r
    exact .inr ⟨_, rfl, p H ρ _ (Evo.refl ..) S (.int _)⟩
  · exact p.elim
/-- the ints of a list of ints -/
def intsOf : List W → Option (List Int)
  | [] => some []
  | .int i :: ws => (intsOf ws).map (i :: ·)
  | _ :: _ => none
theorem intsOf_eq : ∀ {ws : List W} {ns : List Int}, intsOf ws = some ns → ws = ns.map W.int
  | [], ns, h => by cases h; rfl
  | w :: ws, ns, h => by
    cases w with
    | int i =>
      simp only [intsOf, Option.map_eq_some_iff] at h
      obtain ⟨ms, e, rfl⟩ := h
      rw [List.map_cons, intsOf_eq e]
    | _ => simp [intsOf] at h
@[simp] theorem intsOf_map (ns : List Int) : intsOf (ns.map W.int) = some ns := by
  induction ns with
  | nil => rfl
  | cons n ns ih => simp [intsOf, ih]
def blsOf : List W → Option (List Bool)
  | [] => some []
  | .bl i :: ws => (blsOf ws).map (i :: ·)
  | _ :: _ => none
theorem blsOf_eq : ∀ {ws : List W} {ns : List Bool}, blsOf ws = some ns → ws = ns.map W.bl
  | [], ns, h => by cases h; rfl
  | w :: ws, ns, h => by
    cases w with
    | bl i =>
      simp only [blsOf, Option.map_eq_some_iff] at h
      obtain ⟨ms, e, rfl⟩ := h
      rw [List.map_cons, blsOf_eq e]
    | _ => simp [blsOf] at h
@[simp] theorem blsOf_map (ns : List Bool) : blsOf (ns.map W.bl) = some ns := by
  induction ns with
  | nil => rfl
  | cons n ns ih => simp [blsOf, ih]
def lstK (s : Sto) (w : W) : Option (List W) := match w with
  | .kl ws => some ws
  | w => lstOf s w
theorem lstK_rep {H : Hp} {ρ : Pl} {st : Sto} {v : V} {w : W} {ws : List W} (S : RelS C H ρ st) (r : Rep C.K H ρ st v w) (h : lstK st w = some ws) : ∃ a vs, v = .ref a ∧ SqL C.K H a vs ∧ RepL C.K H ρ st vs ws := by
  cases w with
  | kl ws' => cases r with | kl h1 h2 => cases h; exact ⟨_, _, rfl, h1.seq, h2⟩
  | fl ws' => obtain ⟨a, vs, e, q, r⟩ := lstOf_rep S r (show lstOf st (.fl ws') = some ws from h); exact ⟨a, vs, e, SqL.of q, r⟩
  | loc l => obtain ⟨a, vs, e, q, r⟩ := lstOf_rep S r (show lstOf st (.loc l) = some ws from h); exact ⟨a, vs, e, SqL.of q, r⟩
  | _ => cases h
/-- all, any of a list of bools; sum of a list of ints -/
def allF (ws : List W) (s : Sto) : R W := match ws with
  | [w] => match (lstK s w).bind blsOf with
    | some bs => .ok (.bl (bs.all id)) s
    | none => .no
  | _ => .no
def anyF (ws : List W) (s : Sto) : R W := match ws with
  | [w] => match (lstK s w).bind blsOf with
    | some bs => .ok (.bl (bs.any id)) s
    | none => .no
  | _ => .no
def sumF (ws : List W) (s : Sto) : R W := match ws with
  | [w] => match (lstK s w).bind intsOf with
    | some bs => .ok (.int bs.sum) s
    | none => .no
  | _ => .no
theorem cm_all : ClM C E (rAll C.K) allF := by
  intro H ρ st vs ws Q S rs p
  unfold allF at p
  split at p
  · obtain ⟨v, rfl, r⟩ := rs.one
    split at p
    · rename_i bs e
      rw [Option.bind_eq_some_iff] at e
      obtain ⟨xs, e1, e2⟩ := e
      obtain ⟨a, us, rfl, q, r⟩ := lstK_rep S r e1
      rw [blsOf_eq e2] at r
      exact ⟨a, bs, rfl, r.bls ▸ q, p H ρ _ (Evo.refl ..) S (.bl _)⟩
    · exact p.elim
  · exact p.elim
theorem cm_any : ClM C E (rAny C.K) anyF := by
  intro H ρ st vs ws Q S rs p
  unfold anyF at p
  split at p
  · obtain ⟨v, rfl, r⟩ := rs.one
    split at p
    · rename_i bs e
      rw [Option.bind_eq_some_iff] at e
      obtain ⟨xs, e1, e2⟩ := e
      obtain ⟨a, us, rfl, q, r⟩ := lstK_rep S r e1
      rw [blsOf_eq e2] at r
      exact ⟨a, bs, rfl, r.bls ▸ q, p H ρ _ (Evo.refl ..) S (.bl _)⟩
    · exact p.elim
  · exact p.elim
theorem cm_sum : ClM C E (rSum C.K) sumF := by
  intro H ρ st vs ws Q S rs p
  unfold sumF at p
  split at p
  · obtain ⟨v, rfl, r⟩ := rs.one
    split at p
    · rename_i bs e
      rw [Option.bind_eq_some_iff] at e
      obtain ⟨xs, e1, e2⟩ := e
      obtain ⟨a, us, rfl, q, r⟩ := lstK_rep S r e1
      rw [intsOf_eq e2] at r
      exact ⟨a, bs, rfl, r.ints ▸ q, p H ρ _ (Evo.refl ..) S (.int _)⟩
    · exact p.elim
  · exact p.elim
/-- max, min: of two ints, of a list of ints -/
def maxL : List Int → Int
  | [] => 0
  | [x] => x
  | x :: y :: xs => max x (maxL (y :: xs))
def minL : List Int → Int
  | [] => 0
  | [x] => x
  | x :: y :: xs => min x (minL (y :: xs))
theorem maxL_le : ∀ {ns : List Int} {y : Int}, y ∈ ns → y ≤ maxL ns
  | [x], y, h => by simp at h; subst h; simp [maxL]
  | x :: z :: xs, y, h => by
    unfold maxL
    rcases List.mem_cons.mp h with rfl | h
    · omega
    · have := maxL_le h
      omega
theorem maxL_mem : ∀ {ns : List Int}, 0 < ns.length → maxL ns ∈ ns
  | [x], _ => by simp [maxL]
  | x :: z :: xs, _ => by
    unfold maxL
    have ih := maxL_mem (ns := z :: xs) (by simp)
    rcases Int.le_total x (maxL (z :: xs)) with h | h
    · rw [Int.max_eq_right h]; exact List.mem_cons_of_mem _ ih
    · rw [Int.max_eq_left h]; exact List.mem_cons_self
theorem minL_le : ∀ {ns : List Int} {y : Int}, y ∈ ns → minL ns ≤ y
  | [x], y, h => by simp at h; subst h; simp [minL]
  | x :: z :: xs, y, h => by
    unfold minL
    rcases List.mem_cons.mp h with rfl | h
    · omega
    · have := minL_le h
      omega
theorem minL_mem : ∀ {ns : List Int}, 0 < ns.length → minL ns ∈ ns
  | [x], _ => by simp [minL]
  | x :: z :: xs, _ => by
    unfold minL
    have ih := minL_mem (ns := z :: xs) (by simp)
    rcases Int.le_total x (minL (z :: xs)) with h | h
    · rw [Int.min_eq_left h]; exact List.mem_cons_self
    · rw [Int.min_eq_right h]; exact List.mem_cons_of_mem _ ih
def maxF (ws : List W) (s : Sto) : R W := match ws with
  | [.int i, .int j] => .ok (.int (max i j)) s
  | [w] => match (lstK s w).bind intsOf with
    | some ns => if 0 < ns.length then .ok (.int (maxL ns)) s else .no
    | none => .no
  | _ => .no
def minF (ws : List W) (s : Sto) : R W := match ws with
  | [.int i, .int j] => .ok (.int (min i j)) s
  | [w] => match (lstK s w).bind intsOf with
    | some ns => if 0 < ns.length then .ok (.int (minL ns)) s else .no
    | none => .no
  | _ => .no
def rMaxU (K : PySem.W.Frag) : List V → Hp → VK → Prop := fun xs H Q => (∃ i j, xs = [.int i, .int j] ∧ Q (.int (if j > i then j else i)) H) ∨ rMax K xs H Q
def rMinU (K : PySem.W.Frag) : List V → Hp → VK → Prop := fun xs H Q => (∃ i j, xs = [.int i, .int j] ∧ Q (.int (if j < i then j else i)) H) ∨ rMin K xs H Q
theorem cr_maxU (hc : X.calm = true) : CallR X (.builtin "max") (rMaxU X.K) := (call_max2 hc).or (cr_max hc)
theorem cr_minU (hc : X.calm = true) : CallR X (.builtin "min") (rMinU X.K) := (call_min2 hc).or (cr_min hc)
theorem cm_max : ClM C E (rMaxU C.K) maxF := by
  intro H ρ st vs ws Q S rs p
  unfold maxF at p
  split at p
  · obtain ⟨v, u, rfl, r1, r2⟩ := rs.two
    cases r1; cases r2
    rename_i i j
    refine .inl ⟨i, j, rfl, ?_⟩
    have e : (if j > i then j else i) = max i j := by split <;> omega
    rw [e]
    exact p H ρ _ (Evo.refl ..) S (.int _)
  · obtain ⟨v, rfl, r⟩ := rs.one
    split at p
    · rename_i bs e
      rw [Option.bind_eq_some_iff] at e
      obtain ⟨xs, e1, e2⟩ := e
      obtain ⟨a, us, rfl, q, r⟩ := lstK_rep S r e1
      rw [intsOf_eq e2] at r
      split at p
      · rename_i hl
        refine .inr ⟨a, bs, rfl, r.ints ▸ q, hl, fun m hm hle => ?_⟩
        have e : m = maxL bs := Int.le_antisymm (maxL_le hm) (hle _ (maxL_mem hl))
        rw [e]
        exact p H ρ _ (Evo.refl ..) S (.int _)
      · exact p.elim
    · exact p.elim
  · exact p.elim
theorem cm_min : ClM C E (rMinU C.K) minF := by
  intro H ρ st vs ws Q S rs p
  unfold minF at p
  split at p
  · obtain ⟨v, u, rfl, r1, r2⟩ := rs.two
    cases r1; cases r2
    rename_i i j
    refine .inl ⟨i, j, rfl, ?_⟩
    have e : (if j < i then j else i) = min i j := by split <;> omega
    rw [e]
    exact p H ρ _ (Evo.refl ..) S (.int _)
  · obtain ⟨v, rfl, r⟩ := rs.one
    split at p
    · rename_i bs e
      rw [Option.bind_eq_some_iff] at e
      obtain ⟨xs, e1, e2⟩ := e
      obtain ⟨a, us, rfl, q, r⟩ := lstK_rep S r e1
      rw [intsOf_eq e2] at r
      split at p
      · rename_i hl
        refine .inr ⟨a, bs, rfl, r.ints ▸ q, hl, fun m hm hle => ?_⟩
        have e : m = minL bs := Int.le_antisymm (hle _ (minL_mem hl)) (minL_le hm)
        rw [e]
        exact p H ρ _ (Evo.refl ..) S (.int _)
      · exact p.elim
    · exact p.elim
  · exact p.elim
/-- list(x): a list that stays, or one with a place; tuple(x) -/
def listF (ws : List W) (s : Sto) : R W := match ws with
  | [w] => match seqOf s w with
    | some xs => .ok (.fl xs) s
    | none => .no
  | _ => .no
def listLF (ws : List W) (s : Sto) : R W := match ws with
  | [w] => match seqOf s w with
    | some xs => .ok (.loc s.length) (s ++ [.lst xs])
    | none => .no
  | _ => .no
def tupF (ws : List W) (s : Sto) : R W := match ws with
  | [w] => match seqOf s w with
    | some xs => .ok (.tup xs) s
    | none => .no
  | _ => .no
abbrev rListOf (K : PySem.W.Frag) : List V → Hp → VK → Prop := fun xs H Q => ∃ p ys, xs = [.ref p] ∧ (SqL K H p ys ∨ SqT K H p ys) ∧ ∀ l, H l = none → Q (.ref l) (upd H l (.lst ys))
theorem cm_list : ClM C E (rListOf C.K) listF := by
  intro H ρ st vs ws Q S rs p
  unfold listF at p
  split at p
  · obtain ⟨v, rfl, r⟩ := rs.one
    split at p
    · rename_i xs e
      obtain ⟨a, us, rfl, q, r⟩ := seqOf_rep S r e
      exact ⟨a, us, rfl, q, fun l hl => p _ ρ _ (Evo.laid hl) (S.laid hl) (fl_new S hl r)⟩
    · exact p.elim
  · exact p.elim
theorem cm_listL : ClM C E (rListOf C.K) listLF := by
  intro H ρ st vs ws Q S rs p
  unfold listLF at p
  split at p
  · obtain ⟨v, rfl, r⟩ := rs.one
    split at p
    · rename_i xs e
      obtain ⟨a, us, rfl, q, r⟩ := seqOf_rep S r e
      exact ⟨a, us, rfl, q, fun l hl => p _ (ρ.add l) _ (Evo.push hl) (lst_push S hl r) (loc_new S)⟩
    · exact p.elim
  · exact p.elim
theorem cm_tuple : ClM C E (fun xs H Q => ∃ p ys, xs = [.ref p] ∧ ((SqL C.K H p ys ∧ ∀ l, H l = none → Q (.ref l) (upd H l (.tup ys))) ∨ (SqT C.K H p ys ∧ Q (.ref p) H))) tupF := by
  intro H ρ st vs ws Q S rs p
  unfold tupF at p
  split at p
  · obtain ⟨v, rfl, r⟩ := rs.one
    split at p
    · rename_i xs e
      obtain ⟨a, us, rfl, q, r⟩ := seqOf_rep S r e
      refine ⟨a, us, rfl, ?_⟩
      rcases q with q | q
      · exact .inl ⟨q, fun l hl => p _ ρ _ (Evo.laid hl) (S.laid hl) (tup_new S hl r)⟩
      · exact .inr ⟨q, p H ρ _ (Evo.refl ..) S (.tup q r)⟩
    · exact p.elim
  · exact p.elim
/-- isinstance(x, T) of a built-in type -/
inductive Ty where
  | non | bl | int | str | tup | lst
def Ty.nm : Ty → String
  | .non => "NoneType" | .bl => "bool" | .int => "int" | .str => "str" | .tup => "tuple" | .lst => "list"
def Ty.le : Ty → Ty → Bool
  | .bl, .bl => true | .bl, .int => true | .int, .int => true | .str, .str => true | .tup, .tup => true | .lst, .lst => true | .non, .non => true | _, _ => false
theorem Ty.kit (a b : Ty) (hb : b ≠ .non) : kitB a.nm b.nm = some (a.le b) := by
  cases b with
  | non => exact absurd rfl hb
  | _ => cases a <;> decide +kernel
def tyOf (s : Sto) (w : W) : Option Ty := match w with
  | .non => some .non
  | .bl _ => some .bl
  | .int _ => some .int
  | .str _ => some .str
  | .tup _ => some .tup
  | .fl _ => some .lst
  | .kl _ => some .lst
  | .loc l => match s[l]? with
    | some (.lst _) => some .lst
    | _ => none
  | .raw _ => none
theorem tyOf_rep {H : Hp} {ρ : Pl} {st : Sto} {v : V} {w : W} {t : Ty} (S : RelS C H ρ st) (r : Rep C.K H ρ st v w) (h : tyOf st w = some t) : TyX C.K H v (.type t.nm) := by
  unfold tyOf at h
  cases r with
  | non => cases h; exact .base .non
  | bl b => cases h; exact .base (.bl b)
  | int i => cases h; exact .base (.int i)
  | str x => cases h; exact .base (.str x)
  | raw v => cases h
  | tup q r =>
    cases h
    rcases q with (q | ⟨o, q⟩) | ⟨o, its, n, q, cq, _⟩
    · exact .base (.tup q)
    · exact .fTuple q
    · exact .kTuple q cq
  | fl q n r => cases h; exact .base (.lst q)
  | kl q r =>
    cases h
    rcases q with ⟨q, _⟩ | ⟨o, q⟩ | (q | ⟨o, q⟩) | ⟨o, its, n, q, cq, _⟩
    · exact .base (.lst q)
    · exact .base (.frz q)
    · cases q
    · cases q
    · exact .kList q cq
  | @loc a l q =>
    simp only at h
    split at h
    · rename_i ws e
      cases h
      obtain ⟨vs, z, _⟩ := S.obj _ a _ q e
      exact .base (.lst z)
    · cases h
def isiW (T : Ty) (x : W) (s : Sto) : R W := match tyOf s x with
  | some t => .ok (.bl (t.le T)) s
  | none => .no
theorem me_isi {T : Ty} {p : Pos} {c : Expr} (hT : T ≠ .non) (hK : C.K = X.K) (ha : ME X C E a ma) (hc : PE X c (tC (.ty T.nm))) (hg : Gl X "isinstance") (hm : X.mg "isinstance" = none)
    (he : starEach [a, c] X.env = (false, eval a X.env) :: starEach [c] X.env := by rfl) (he2 : starEach [c] X.env = (false, eval c X.env) :: starEach [] X.env := by rfl) (hpl : (backTo pos (starEach [c] X.env)).any (·.1) = false := by rfl) :
    ME X C E (.Call (.Name "isinstance" p) [a, c] [] pos) (un (isiW T) ma) := by
  refine PE.imp (pe_callB call_isi hg hm (by decide +kernel) (pa_cons ha (pa_cons hc pa_nil he2) he) (by decide) (by decide) he hpl) fun σ H Q ⟨ρ, st, env, re, S, p⟩ => ⟨ρ, st, env, re, S, Post.bind p fun x s1 H1 ρ1 v _ e1 S1 r1 p1 => ?_⟩
  unfold isiW at p1
  split at p1
  · rename_i t ht
    exact ⟨v, .ty T.nm, .type t.nm, .type T.nm, t.le T, rfl, .ty _, hK ▸ tyOf_rep S1 r1 ht, kit_ty (Ty.kit t T hT), p1 H1 ρ1 _ (Evo.refl ..) S1 (.bl _)⟩
  · exact p1.elim

/-! ### items and slices -/
def ixW (x i : W) (s : Sto) : R W := match seqOf s x, i with
  | some ws, .int i => match atI ws i with
    | some w => .ok w s
    | none => .no
  | _, _ => .no
def rIxU (K : PySem.W.Frag) : R2 := fun x y H Q => rIxL K x y H Q ∨ rIxT K x y H Q
theorem or_ix : IxR X (rIxU X.K) := ix_list.or ix_tup
theorem atI_rep {K : PySem.W.Frag} {H : Hp} {ρ : Pl} {st : Sto} {vs : List V} {ws : List W} {i : Int} {w : W} (r : RepL K H ρ st vs ws) (h : atI ws i = some w) : ∃ v, atI vs i = some v ∧ Rep K H ρ st v w := by
  unfold atI at h ⊢
  rw [Option.bind_eq_some_iff] at h
  obtain ⟨j, e, q⟩ := h
  rw [r.length, e]
  exact r.get q
theorem om_ix : OpM C E (rIxU C.K) ixW := by
  intro H ρ st v u x y Q S rx ry p
  unfold ixW at p
  split at p
  · rename_i ws i e
    cases ry
    split at p
    · rename_i w h
      obtain ⟨a, vs, rfl, q, r⟩ := seqOf_rep S rx e
      obtain ⟨vv, h1, h2⟩ := atI_rep r h
      rcases q with q | q
      · exact .inl ⟨a, vs, _, vv, rfl, rfl, q, h1, p H ρ _ (Evo.refl ..) S h2⟩
      · exact .inr ⟨a, vs, _, vv, rfl, rfl, q, h1, p H ρ _ (Evo.refl ..) S h2⟩
    · exact p.elim
  · exact p.elim
theorem me_ix (hK : C.K = X.K) (ha : ME X C E a ma) (hb : ME X C E b mb) (hs : PlainIx b := by intro _ _; rfl) : ME X C E (.Subscript a b pos) (bn ixW ma mb) :=
  PE.imp (pe_ix or_ix ha hb hs) fun _ _ _ h => tOp_of (r := rIxU X.K) (hK ▸ om_ix) h
def cutL {α : Type} (xs : List α) (lo hi : Option Int) : List α := (xs.drop (HT.sIx xs.length 0 lo)).take (HT.sIx xs.length xs.length hi - HT.sIx xs.length 0 lo)
theorem cutL_rep {K : PySem.W.Frag} {H : Hp} {ρ : Pl} {st : Sto} {vs : List V} {ws : List W} (r : RepL K H ρ st vs ws) (lo hi : Option Int) : RepL K H ρ st (cutV vs lo hi) (cutL ws lo hi) := by
  unfold cutV cutL
  rw [r.length]
  exact (r.drop _).take _
abbrev Ox := En → Sto → R (Option Int)
def oxn : Ox := fun _ st => .ok none st
def oxs (a : Ex) : Ox := fun env st => (a env st).bind fun x s => match x with
  | .int i => .ok (some i) s
  | _ => .no
def tMO (C : MC) (E : XK) (m : Ox) : TO := fun σ H Q => ∃ ρ st env, RelE C.K H ρ st σ env ∧ RelS C H ρ st ∧ Post relI C E H ρ st (m env st) Q
def MO (X : Cx) (C : MC) (E : XK) (e : Option Expr) (m : Ox) : Prop := PO X e (tMO C E m)
theorem mo_none : MO X C E none oxn := ⟨fun pins s σ H Q I ⟨ρ, st, env, re, S, p⟩ => po_none.run pins s σ H Q I (p H ρ none (Evo.refl ..) S rfl)⟩
theorem mo_some (h : ME X C E a ma) : MO X C E (some a) (oxs ma) := by
  refine ⟨fun pins s σ H Q I ⟨ρ, st, env, re, S, p⟩ => (po_some h).run pins s σ H Q I ⟨ρ, st, env, re, S, Post.bind p fun x s1 H1 ρ1 v _ e1 S1 r1 p1 => ?_⟩⟩
  cases x with
  | int i => cases r1; exact ⟨i, rfl, p1 H1 ρ1 (some i) (Evo.refl ..) S1 rfl⟩
  | _ => exact p1.elim
/-- what a slice gives: a list that stays, one with a place, a tuple -/
def slF (x : W) (lo hi : Option Int) (s : Sto) : R W := match x with
  | .tup ws => if HT.sIx ws.length 0 lo = 0 ∧ HT.sIx ws.length ws.length hi = ws.length then .no else .ok (.tup (cutL ws lo hi)) s
  | x => match lstK s x with
    | some ws => .ok (.fl (cutL ws lo hi)) s
    | none => .no
def slLF (x : W) (lo hi : Option Int) (s : Sto) : R W := match lstK s x with
  | some ws => .ok (.loc s.length) (s ++ [.lst (cutL ws lo hi)])
  | none => .no
def slE (f : W → Option Int → Option Int → Sto → R W) (a : Ex) (lo hi : Ox) : Ex := fun env st => (a env st).bind fun x s1 => (lo env s1).bind fun l s2 => (hi env s2).bind fun h s3 => f x l h s3
def SlM (C : MC) (E : XK) (r : V → Option Int → Option Int → Hp → VK → Prop) (f : W → Option Int → Option Int → Sto → R W) : Prop := ∀ (H : Hp) (ρ : Pl) (st : Sto) (v : V) (x : W) (lo hi : Option Int) (Q : VK),
  RelS C H ρ st → Rep C.K H ρ st v x → Post (relW C) C E H ρ st (f x lo hi st) Q → r v lo hi H Q
def rSlU (K : PySem.W.Frag) : V → Option Int → Option Int → Hp → VK → Prop := fun x lo hi H Q => rSlL K x lo hi H Q ∨ rSlT K x lo hi H Q
theorem or_sl : SlR X (rSlU X.K) := sl_list.or sl_tup
theorem sm_sl : SlM C E (rSlU C.K) slF := by
  intro H ρ st v x lo hi Q S rx p
  unfold slF at p
  split at p
  · cases rx with
    | tup h1 h2 =>
      split at p
      · exact p.elim
      · rename_i h
        exact .inr ⟨_, _, rfl, h1, by rw [h2.length]; exact h, fun q hq => p _ ρ _ (Evo.laid hq) (S.laid hq) (tup_new S hq (cutL_rep h2 lo hi))⟩
  · split at p
    · rename_i ws e
      obtain ⟨a, vs, rfl, q, r⟩ := lstK_rep S rx e
      exact .inl ⟨a, vs, rfl, q, fun q hq => p _ ρ _ (Evo.laid hq) (S.laid hq) (fl_new S hq (cutL_rep r lo hi))⟩
    · exact p.elim
theorem sm_slL : SlM C E (rSlU C.K) slLF := by
  intro H ρ st v x lo hi Q S rx p
  unfold slLF at p
  split at p
  · rename_i ws e
    obtain ⟨a, vs, rfl, q, r⟩ := lstK_rep S rx e
    exact .inl ⟨a, vs, rfl, q, fun q hq => p _ (ρ.add q) _ (Evo.push hq) (lst_push S hq (cutL_rep r lo hi)) (loc_new S)⟩
  · exact p.elim
theorem me_sl {lo hi : Option Expr} {ml mh : Ox} {p2 : Pos} {f : W → Option Int → Option Int → Sto → R W} (hK : C.K = X.K) (hf : SlM C E (rSlU C.K) f) (ha : ME X C E a ma) (hl : MO X C E lo ml) (hh : MO X C E hi mh) : ME X C E (.Subscript a (.Slice lo hi none p2) pos) (slE f ma ml mh) := by
  refine PE.imp (pe_slice or_sl ha hl hh) fun σ H Q ⟨ρ, st, env, re, S, p⟩ => ⟨ρ, st, env, re, S, Post.bind p fun x s1 H1 ρ1 v _ e1 S1 r1 p1 => ?_⟩
  have re1 := re.evo e1 S.liv
  refine ⟨ρ1, s1, env, re1, S1, Post.bind (rel := relI) p1 fun l s2 H2 ρ2 vl _ e2 S2 r2 p2 => ?_⟩
  refine ⟨ρ2, s2, env, re1.evo e2 S1.liv, S2, Post.bind (rel := relI) p2 fun h s3 H3 ρ3 vh _ e3 S3 r3 p3 => ?_⟩
  have r2 : vl = l := r2
  have r3 : vh = h := r3
  subst r2; subst r3
  rw [← hK]
  exact hf H3 ρ3 s3 v x vl vh Q S3 ((r1.evo e2 S1.liv).evo e3 S2.liv) p3

/-! ### methods of lists -/
def MtW (C : MC) (E : XK) (r : V → List V → Hp → VK → Prop) (f : W → List W → Sto → R W) : Prop := ∀ (H : Hp) (ρ : Pl) (st : Sto) (v : V) (vs : List V) (x : W) (ws : List W) (Q : VK),
  RelS C H ρ st → Rep C.K H ρ st v x → RepL C.K H ρ st vs ws → Post (relW C) C E H ρ st (f x ws st) Q → r v vs H Q
/-- o.m(..), o a list -/
def lmE (f : W → List W → Sto → R W) (o : Ex) (m : Ax) : Ex := fun env st => (o env st).bind fun x s1 => match lstK s1 x with
  | some _ => (m env s1).bind fun ws s2 => f x ws s2
  | none => .no
section
variable {name : Str} {apos cpos : Pos} {id : String} {r : V → List V → Hp → VK → Prop} {f : W → List W → Sto → R W}
theorem me_lm (hK : C.K = X.K) (hf : MtW C E r f) (slot : Slot "list" name id) (hty : typeOf (.builtin id) = pure (.type "method_descriptor")) (hm : MtR X id r) (ho : ME X C E o mo) (ha : MA' X C E (e :: es) mr)
    (hbase : attributeBase o name X.env (eval o X.env) = eval o X.env := by rfl)
    (hfew : ((backTo cpos (starEach (e :: es) X.env)).all (fun x => !x.1) && (backToKw cpos (keywordEach [] X.env)).all (fun x => x.1.isSome)
      && decide ((e :: es).length + ([] : List Keyword).length + (if ([] : List Keyword).isEmpty then 0 else 1) < 30)) = true := by rfl)
    (hline : (apos.endLine == cpos.line) = true := by rfl) (hs : starEach (e :: es) X.env = (false, eval e X.env) :: starEach es X.env := by rfl) (hplain : (backTo cpos (starEach es X.env)).any (·.1) = false := by rfl) :
    ME X C E (.Call (.Attribute o name apos) (e :: es) [] cpos) (lmE f mo mr) := by
  refine PE.imp (pe_bm PySem.F.plainAttrs_list slot hty hm ho ha.pa hbase hfew hline hs hplain) fun σ H Q ⟨ρ, st, env, re, S, p⟩ => ⟨ρ, st, env, re, S, Post.bind p fun x s1 H1 ρ1 v _ e1 S1 r1 p1 => ?_⟩
  split at p1
  · rename_i zs ez
    obtain ⟨a, vs, rfl, q, r⟩ := lstK_rep S1 r1 ez
    refine ⟨.inl ⟨rfl, vs, hK ▸ q⟩, ?_⟩
    refine ⟨ρ1, s1, env, re.evo e1 S.liv, S1, Post.bind p1 fun l s2 H2 ρ2 vl _ e2 S2 r2 p2 => ?_⟩
    exact hf H2 ρ2 s2 _ vl x l Q S2 (r1.evo e2 S1.liv) r2 p2
  · exact p1.elim
theorem me_lm0 (hK : C.K = X.K) (hf : MtW C E r f) (slot : Slot "list" name id) (hty : typeOf (.builtin id) = pure (.type "method_descriptor")) (hm : MtR X id r) (ho : ME X C E o mo)
    (hbase : attributeBase o name X.env (eval o X.env) = eval o X.env := by rfl) (hline : (apos.endLine == cpos.line) = true := by rfl) :
    ME X C E (.Call (.Attribute o name apos) [] [] cpos) (lmE f mo axn) := by
  refine PE.imp (pe_bm0 PySem.F.plainAttrs_list slot hty hm ho hbase hline) fun σ H Q ⟨ρ, st, env, re, S, p⟩ => ⟨ρ, st, env, re, S, Post.bind p fun x s1 H1 ρ1 v _ e1 S1 r1 p1 => ?_⟩
  split at p1
  · rename_i zs ez
    obtain ⟨a, vs, rfl, q, r⟩ := lstK_rep S1 r1 ez
    exact ⟨.inl ⟨rfl, vs, hK ▸ q⟩, hf H1 ρ1 s1 _ [] x [] Q S1 r1 .nil p1⟩
  · exact p1.elim
end
theorem lst_write {H : Hp} {ρ : Pl} {st : Sto} {l : Nat} {a : Addr} {vs : List V} {ws us : List W} (S : RelS C H ρ st) (h : ρ.pl[l]? = some a) (e : st[l]? = some (.lst us)) (r : RepL C.K H ρ st vs ws) :
    Evo H ρ st (upd H a (.lst vs)) ρ (st.set l (.lst ws)) ∧ RelS C (upd H a (.lst vs)) ρ (st.set l (.lst ws)) :=
  have ev : Evo H ρ st (upd H a (.lst vs)) ρ (st.set l (.lst ws)) := Evo.write h e (fun z => nomatch z)
  ⟨ev, S.write h e (fun z => nomatch z) ⟨vs, upd_same, r.evo ev S.liv⟩⟩
def appF (x : W) (ws : List W) (s : Sto) : R W := match x, ws with
  | .loc l, [w] => match s[l]? with
    | some (.lst xs) => if ck (xs.length < 10000000) = true then .ok .non (s.set l (.lst (xs ++ [w]))) else .no
    | _ => .no
  | _, _ => .no
theorem mm_append : MtW C E rAppend appF := by
  intro H ρ st v vs x ws Q S rx rs p
  unfold appF at p
  split at p
  · cases rx with
    | @loc a l q =>
      obtain ⟨u, rfl, ru⟩ := rs.one
      split at p
      · rename_i xs e
        split at p
        · rename_i hl
          obtain ⟨zs, hz, rz⟩ := S.obj _ a _ q e
          obtain ⟨ev, S'⟩ := lst_write S q e (rz.append (.cons ru .nil))
          exact ⟨a, zs, u, rfl, rfl, hz, by rw [rz.length]; exact Nat.lt_of_lt_of_le (ck_iff.mp hl) (by decide), p _ ρ _ ev S' .non⟩
        · exact p.elim
      · exact p.elim
  · exact p.elim
def extF (x : W) (ws : List W) (s : Sto) : R W := match x, ws with
  | .loc l, [w] => match s[l]?, lstOf s w with
    | some (.lst xs), some ys => if ck (xs.length + ys.length ≤ 10000000) = true then .ok .non (s.set l (.lst (xs ++ ys))) else .no
    | _, _ => .no
  | _, _ => .no
theorem mm_extend : MtW C E rExtend extF := by
  intro H ρ st v vs x ws Q S rx rs p
  unfold extF at p
  split at p
  · cases rx with
    | @loc a l q =>
      obtain ⟨u, rfl, ru⟩ := rs.one
      split at p
      · rename_i xs ys e ey
        split at p
        · rename_i hl
          obtain ⟨zs, hz, rz⟩ := S.obj _ a _ q e
          obtain ⟨b, us, rfl, hb, rb⟩ := lstOf_rep S ru ey
          obtain ⟨ev, S'⟩ := lst_write S q e (rz.append rb)
          exact ⟨a, b, zs, us, rfl, rfl, hz, hb, by rw [rz.length, rb.length]; exact szL (ck_iff.mp hl), p _ ρ _ ev S' .non⟩
        · exact p.elim
      · exact p.elim
  · exact p.elim
def popF (x : W) (ws : List W) (s : Sto) : R W := match x, ws with
  | .loc l, [] => match s[l]? with
    | some (.lst xs) => match xs[xs.length - 1]? with
      | some y => .ok y (s.set l (.lst xs.dropLast))
      | none => .no
    | _ => .no
  | _, _ => .no
theorem mm_pop : MtW C E rPop popF := by
  intro H ρ st v vs x ws Q S rx rs p
  unfold popF at p
  split at p
  · cases rx with
    | @loc a l q =>
      cases rs
      split at p
      · rename_i xs e
        split at p
        · rename_i y hy
          obtain ⟨zs, hz, rz⟩ := S.obj _ a _ q e
          obtain ⟨u, hu, ru⟩ := rz.get hy
          obtain ⟨ev, S'⟩ := lst_write S q e rz.dropLast
          exact ⟨a, zs, u, rfl, rfl, hz, by rw [rz.length]; exact hu, p _ ρ _ ev S' (ru.evo ev S.liv)⟩
        · exact p.elim
      · exact p.elim
  · exact p.elim
end
end ML

/-! ML4: calls, fields, statements, loops, defs -/
namespace ML
open PySem L2
noncomputable section

/-! ### a def's promise -/
/-- called with what ws reads as, it gives what d gives; no exception leaves it -/
def sp0 (C : MC) (n : Nat) (d : List W → Sto → R W) : Sp := fun vs H Q _ => vs.length = n ∧ ∃ ρ st ws, RepL C.K H ρ st vs ws ∧ RelS C H ρ st ∧ Post (relW C) C E0 H ρ st (d ws st) Q
section
variable {X : Cx} {C : MC} {a b c e o : Expr} {ma mb mc mo : Ex} {pos : Pos} {es : List Expr} {mr : Ax}
variable {k : Nat} {f : Addr} {fd : FuncData} {ps : List Str} {x m : Str} {p apos : Pos} {d : List W → Sto → R W}
theorem me_call {n : Nat} (F : FnOk X.prog X.w X.K X.mg X.base CX0 k f fd ps (sp0 C n d)) (hr : Room k X.A) (hg : Gl X x) (hm : X.mg x = some (.ref f)) (hk : PySem.W.keepIn X.K (.ref f) = true) (hb : Binds X.K fd ps []) (hn : (e :: es).length = n)
    (ha : MA' X C E0 (e :: es) mr) (hdb : (x == ("__debug__" : Str)) = false := by decide) (he : starEach (e :: es) X.env = (false, eval e X.env) :: starEach es X.env := by rfl) (hpl : (backTo pos (starEach es X.env)).any (·.1) = false := by rfl) :
    ME X C E0 (.Call (.Name x p) (e :: es) [] pos) (clE d mr) := by
  refine PE.imp (pe_call F hr hg hm hk hb .nil pass0 ha.pa hdb he hpl) fun σ H Q ⟨ρ, st, env, re, S, p⟩ => ⟨ρ, st, env, re, S, Post.bind p fun ws s1 H1 ρ1 vs hw e1 S1 r1 p1 => ?_⟩
  rw [List.append_nil]
  exact ⟨by rw [r1.length, ha.ln _ _ _ _ hw, hn], ρ1, s1, ws, r1, S1, p1⟩
theorem me_call0 (F : FnOk X.prog X.w X.K X.mg X.base CX0 k f fd ps (sp0 C 0 d)) (hr : Room k X.A) (hg : Gl X x) (hm : X.mg x = some (.ref f)) (hk : PySem.W.keepIn X.K (.ref f) = true) (hb : Binds X.K fd ps [])
    (hdb : (x == ("__debug__" : Str)) = false := by decide) : ME X C E0 (.Call (.Name x p) [] [] pos) (clE d axn) := by
  refine PE.imp (pe_call0 F hr hg hm hk hb .nil pass0 hdb) fun σ H Q ⟨ρ, st, env, re, S, p⟩ => ?_
  exact ⟨rfl, ρ, st, [], .nil, S, p⟩
/-- an instance of the c-th class -/
def isIns (c : Nat) (w : W) (s : Sto) : Bool := match w with
  | .loc l => match s[l]? with
    | some (.ins c' _) => c' == c
    | _ => false
  | _ => false
def mthE (c : Nat) (d : List W → Sto → R W) (o : Ex) (m : Ax) : Ex := fun env st => (o env st).bind fun x s1 => if isIns c x s1 = true then (m env s1).bind fun ws s2 => d (x :: ws) s2 else .no
theorem isIns_rep {H : Hp} {ρ : Pl} {st : Sto} {v : V} {w : W} {c : Nat} {Cd : Addr} {nm : List Str} (S : RelS C H ρ st) (r : Rep C.K H ρ st v w) (hc : C.cls[c]? = some (Cd, nm)) (h : isIns c w st = true) :
    ∃ l a dx fs fvs, w = .loc l ∧ v = .ref a ∧ ρ.pl[l]? = some a ∧ st[l]? = some (.ins c fs) ∧ H a = some (.ins Cd dx fvs) ∧ RepF C H ρ st nm fvs fs := by
  unfold isIns at h
  split at h
  · rename_i l
    split at h
    · rename_i c' fs e
      have e2 : c' = c := by simpa using h
      subst e2
      cases r with
      | @loc a l q =>
        obtain ⟨Cd', nm', dx, fvs, q1, q2, q3⟩ := S.obj _ a _ q e
        rw [hc] at q1; cases q1
        exact ⟨_, a, dx, fs, fvs, rfl, rfl, q, e, q2, q3⟩
    · cases h
  · cases h
theorem RepF.none {H : Hp} {ρ : Pl} {st : Sto} {nm : List Str} {fvs : List (Str × V)} {fs : List (Option W)} (h : RepF C H ρ st nm fvs fs) {m : Str} (hm : m ∉ nm) : fvs.lookup m = none := by
  cases e : fvs.lookup m with
  | none => rfl
  | some v =>
    refine absurd (h.2.2.2 m ?_) hm
    have : ∀ {l : List (Str × V)}, l.lookup m = some v → m ∈ l.map (·.1) := by
      intro l
      induction l with
      | nil => intro z; cases z
      | cons y ys ih =>
        intro z
        rw [List.lookup_cons] at z
        cases q : m == y.1 with
        | true => rw [beq_iff_eq.mp q]; exact List.mem_cons_self
        | false => rw [q] at z; exact List.mem_cons_of_mem _ (ih z)
    exact this e
/-- o.m(..) -/
theorem me_meth {n c : Nat} {Cd : Addr} {nm : List Str} {pl : Sem Bool} (ho : ME X C E0 o mo) (hc : C.cls[c]? = some (Cd, nm)) (hmn : m ∉ nm) (cl : Cls X.K Cd) (hm : Meth X.K Cd m f) (F : FnOk X.prog X.w X.K X.mg X.base CX0 k f fd ps (sp0 C (n + 1) d)) (hr : Room k X.A) (hb : Binds X.K fd ps [])
    (hn : (e :: es).length = n) (ha : MA' X C E0 (e :: es) mr)
    (hst : starEach (e :: es) X.env = (false, eval e X.env) :: starEach es X.env := by rfl) (hpl : (backTo pos (starEach es X.env)).any (·.1) = false := by rfl)
    (ht : eval (.Call (.Attribute o m apos) (e :: es) [] pos) X.env = (do
      let ov ← eval o X.env
      standAt apos.atName
      let (f, first) ← holding [ov] (getMethod ov m pl)
      callWith pos f first (backTo pos (starEach (e :: es) X.env)) (backToKw pos (keywordEach [] X.env))) := by rfl) :
    ME X C E0 (.Call (.Attribute o m apos) (e :: es) [] pos) (mthE c d mo mr) := by
  refine PE.imp (pe_meth (pl := pl) ho cl hm F hr hb .nil pass0 ha.pa hst hpl ht) fun σ H Q ⟨ρ, st, env, re, S, p⟩ => ⟨ρ, st, env, re, S, Post.bind p fun x s1 H1 ρ1 v hx e1 S1 r1 p1 => ?_⟩
  split at p1
  · rename_i hi
    obtain ⟨l, a, dx, fs, fvs, rfl, rfl, q1, q2, q3, q4⟩ := isIns_rep S1 r1 hc hi
    refine ⟨a, dx, fvs, rfl, q3, q4.none hmn, ?_⟩
    refine ⟨ρ1, s1, env, re.evo e1 S.liv, S1, Post.bind p1 fun ws s2 H2 ρ2 vs hw e2 S2 r2 p2 => ?_⟩
    rw [List.append_nil]
    exact ⟨by rw [List.length_cons, r2.length, ha.ln _ _ _ _ hw, hn], ρ2, s2, _, .cons (r1.evo e2 S1.liv) r2, S2, p2⟩
  · exact p1.elim
theorem me_meth0 {c : Nat} {Cd : Addr} {nm : List Str} {pl : Sem Bool} (ho : ME X C E0 o mo) (hc : C.cls[c]? = some (Cd, nm)) (hmn : m ∉ nm) (cl : Cls X.K Cd) (hm : Meth X.K Cd m f) (F : FnOk X.prog X.w X.K X.mg X.base CX0 k f fd ps (sp0 C 1 d)) (hr : Room k X.A) (hb : Binds X.K fd ps [])
    (ht : eval (.Call (.Attribute o m apos) [] [] pos) X.env = (do
      let ov ← eval o X.env
      standAt apos.atName
      let (f, first) ← holding [ov] (getMethod ov m pl)
      callWith pos f first (backTo pos (starEach [] X.env)) (backToKw pos (keywordEach [] X.env))) := by rfl) :
    ME X C E0 (.Call (.Attribute o m apos) [] [] pos) (mthE c d mo axn) := by
  refine PE.imp (L2.pe_meth0 (pl := pl) ho cl hm F hr hb .nil pass0 ht) fun σ H Q ⟨ρ, st, env, re, S, p⟩ => ⟨ρ, st, env, re, S, Post.bind p fun x s1 H1 ρ1 v hx e1 S1 r1 p1 => ?_⟩
  split at p1
  · rename_i hi
    obtain ⟨l, a, dx, fs, fvs, rfl, rfl, q1, q2, q3, q4⟩ := isIns_rep S1 r1 hc hi
    exact ⟨a, dx, fvs, rfl, q3, q4.none hmn, rfl, ρ1, s1, [.loc l], .cons r1 .nil, S1, p1⟩
  · exact p1.elim

/-- C(..) -/
def mkE (c nf : Nat) (d : List W → Sto → R W) (m : Ax) : Ex := fun env st => (m env st).bind fun ws s1 => (d (.loc s1.length :: ws) (s1 ++ [.ins c (List.replicate nf none)])).bind fun r s2 => match r with
  | .non => .ok (.loc s1.length) s2
  | _ => .no
theorem ins_push {H : Hp} {ρ : Pl} {st : Sto} {q dq : Addr} {c : Nat} {Cd : Addr} {nm : List Str} (S : RelS C H ρ st) (hc : C.cls[c]? = some (Cd, nm)) (hq : H q = none) (hd : H dq = none) (ne : dq ≠ q) :
    Evo H ρ st (upd (upd H dq (.own q)) q (.ins Cd dq [])) (ρ.add q) (st ++ [.ins c (List.replicate nm.length none)]) ∧ RelS C (upd (upd H dq (.own q)) q (.ins Cd dq [])) (ρ.add q) (st ++ [.ins c (List.replicate nm.length none)]) := by
  have S1 : RelS C (upd H dq (.own q)) ρ st := S.laid hd
  have hq1 : upd H dq (.own q) q = none := by rw [upd_ne (Ne.symm ne)]; exact hq
  refine ⟨(Evo.laid hd).trans (Evo.push hq1), S1.push hq1 ⟨Cd, nm, dq, [], hc, upd_same, by simp, fun i f w h1 h2 => ?_, by simp, by simp⟩⟩
  rw [List.getElem?_replicate] at h2
  split at h2 <;> cases h2
theorem make_of {H1 : Hp} {ρ1 : Pl} {s1 : Sto} {n c : Nat} {Cd : Addr} {nm : List Str} {Q : VK} {vs : List V} {ws : List W} (hc : C.cls[c]? = some (Cd, nm)) (S1 : RelS C H1 ρ1 s1) (r1 : RepL C.K H1 ρ1 s1 vs ws) (hl : vs.length = n)
    (p1 : Post (relW C) C E0 H1 ρ1 s1 ((d (.loc s1.length :: ws) (s1 ++ [.ins c (List.replicate nm.length none)])).bind fun r s2 => match r with
      | .non => .ok (.loc s1.length) s2
      | _ => .no) Q) : ∀ x dx, H1 x = none → H1 dx = none → dx ≠ x → sp0 C (n + 1) d (.ref x :: (vs ++ [])) (upd (upd H1 dx (.own x)) x (.ins Cd dx [])) (fun v H2 => v = .non ∧ Q (.ref x) H2) E0 := by
  intro q dq hq hd ne
  obtain ⟨ev, S2⟩ := ins_push (c := c) S1 hc hq hd ne
  have rl : Rep C.K (upd (upd H1 dq (.own q)) q (.ins Cd dq [])) (ρ1.add q) (s1 ++ [.ins c (List.replicate nm.length none)]) (.ref q) (.loc s1.length) := .loc (by rw [← S1.len]; exact add_new)
  rw [List.append_nil]
  refine ⟨by rw [List.length_cons, hl], _, _, _, .cons rl (r1.evo ev S1.liv), S2, Post.bind (rel' := relW C) (Post.shift p1 ev) fun w s2 H2 ρ2 v hw e2 S3 r3 p2 => ?_⟩
  cases w with
  | non => cases r3; exact ⟨rfl, p2 H2 ρ2 _ (Evo.refl ..) S3 (rl.evo e2 S2.liv)⟩
  | _ => exact p2.elim
theorem me_make {n c : Nat} {Cd : Addr} {nm : List Str} (hc : C.cls[c]? = some (Cd, nm)) (M : Mk X.K Cd f) (F : FnOk X.prog X.w X.K X.mg X.base CX0 k f fd ps (sp0 C (n + 1) d)) (hr : Room (k + 1) X.A) (hg : Gl X x) (hm : X.mg x = some (.ref Cd)) (hb : Binds X.K fd ps [])
    (hn : (e :: es).length = n) (ha : MA' X C E0 (e :: es) mr) (hdb : (x == ("__debug__" : Str)) = false := by decide) (he : starEach (e :: es) X.env = (false, eval e X.env) :: starEach es X.env := by rfl) (hpl : (backTo pos (starEach es X.env)).any (·.1) = false := by rfl) :
    ME X C E0 (.Call (.Name x p) (e :: es) [] pos) (mkE c nm.length d mr) := by
  refine PE.imp (pe_make M F hr hg hm hb .nil pass0 ha.pa hdb he hpl) fun σ H Q ⟨ρ, st, env, re, S, p⟩ => ⟨ρ, st, env, re, S, Post.bind p fun ws s1 H1 ρ1 vs hw e1 S1 r1 p1 => ?_⟩
  exact make_of hc S1 r1 (by rw [r1.length, ha.ln _ _ _ _ hw, hn]) p1
theorem me_make0 {c : Nat} {Cd : Addr} {nm : List Str} (hc : C.cls[c]? = some (Cd, nm)) (M : Mk X.K Cd f) (F : FnOk X.prog X.w X.K X.mg X.base CX0 k f fd ps (sp0 C 1 d)) (hr : Room (k + 1) X.A) (hg : Gl X x) (hm : X.mg x = some (.ref Cd)) (hb : Binds X.K fd ps [])
    (hdb : (x == ("__debug__" : Str)) = false := by decide) : ME X C E0 (.Call (.Name x p) [] [] pos) (mkE c nm.length d axn) := by
  refine PE.imp (pe_make0 M F hr hg hm hb .nil pass0 hdb) fun σ H Q ⟨ρ, st, env, re, S, p⟩ => ?_
  exact make_of (vs := []) hc S .nil rfl p
end

section
variable {X : Cx} {C : MC} {E : XK} {a b c e o value : Expr} {ma mb mc mo mv : Ex} {pos pos' tpos : Pos} {es : List Expr} {mr : Ax}
/-! ### fields -/
def fldW (c j : Nat) (x : W) (s : Sto) : R W := match x with
  | .loc l => match s[l]? with
    | some (.ins c' fs) => if c' = c then (match fs[j]? with
      | some (some w) => .ok w s
      | _ => .no) else .no
    | _ => .no
  | _ => .no
theorem me_fld {c j : Nat} {Cd : Addr} {nm : List Str} {f : Str} (hK : C.K = X.K) (hc : C.cls[c]? = some (Cd, nm)) (hj : nm[j]? = some f) (cl : Cls X.K Cd) (na : NoAttr X.K Cd f) (ho : ME X C E o mo) (hb : attributeBase o f X.env (eval o X.env) = eval o X.env := by rfl) :
    ME X C E (.Attribute o f pos) (un (fldW c j) mo) := by
  refine PE.imp (pe_fld ho hb) fun σ H Q ⟨ρ, st, env, re, S, p⟩ => ⟨ρ, st, env, re, S, Post.bind p fun x s1 H1 ρ1 v hx e1 S1 r1 p1 => ?_⟩
  unfold fldW at p1
  split at p1
  · split at p1
    · rename_i c' fs e
      split at p1
      · rename_i ec
        subst ec
        split at p1
        · rename_i w ew
          cases r1 with
          | @loc a l q =>
            obtain ⟨Cd', nm', dx, fvs, q1, q2, q3⟩ := S1.obj _ a _ q e
            rw [hc] at q1; cases q1
            obtain ⟨vv, l1, l2⟩ := q3.2.1 j f w hj ew
            exact ⟨a, Cd, dx, fvs, vv, rfl, q2, cl, na, l1, p1 H1 ρ1 _ (Evo.refl ..) S1 l2⟩
        · exact p1.elim
      · exact p1.elim
    · exact p1.elim
  · exact p1.elim
theorem RepF.put {H : Hp} {ρ : Pl} {st : Sto} {nm : List Str} {fvs : List (Str × V)} {fs : List (Option W)} (h : RepF C H ρ st nm fvs fs) (nd : nm.Nodup) {j : Nat} {f : Str} (hj : nm[j]? = some f) {v : V} {w : W} (r : Rep C.K H ρ st v w) :
    RepF C H ρ st nm (putF f v fvs) (fs.set j (some w)) := by
  refine ⟨by rw [List.length_set]; exact h.1, fun i g x h1 h2 => ?_, ?_, ?_⟩
  · rw [lookup_putF]
    by_cases z : j = i
    · subst z
      rw [hj] at h1; cases h1
      have hlt : j < fs.length := by
        have := (List.getElem?_eq_some_iff.mp h2).1
        simpa using this
      rw [List.getElem?_set_self hlt] at h2
      cases h2
      exact ⟨v, if_pos rfl, r⟩
    · rw [List.getElem?_set_ne z] at h2
      obtain ⟨u, q1, q2⟩ := h.2.1 i g x h1 h2
      have ne : g ≠ f := fun e => z (nd_ix nd hj (e ▸ h1))
      exact ⟨u, by rw [if_neg ne]; exact q1, q2⟩
  · have nd2 := h.2.2.1
    have key : ∀ l : List (Str × V), (l.map (·.1)).Nodup → ((putF f v l).map (·.1)).Nodup ∧ ∀ g, g ∈ (putF f v l).map (·.1) → g = f ∨ g ∈ l.map (·.1) := by
      intro l
      induction l with
      | nil => intro _; exact ⟨by simp [putF], fun g hg => .inl (by simpa [putF] using hg)⟩
      | cons y ys ih =>
        intro hn
        obtain ⟨k, u⟩ := y
        rw [List.map_cons, List.nodup_cons] at hn
        obtain ⟨i1, i2⟩ := ih hn.2
        show ((if k = f then (k, v) :: ys else (k, u) :: putF f v ys).map (·.1)).Nodup ∧ _
        by_cases z : k = f
        · subst z
          refine ⟨by rw [if_pos rfl, List.map_cons, List.nodup_cons]; exact hn, fun g hg => ?_⟩
          have hg' : g ∈ ((if k = k then (k, v) :: ys else (k, u) :: putF k v ys).map (·.1)) := hg
          rw [if_pos rfl] at hg'
          exact .inr hg'
        · refine ⟨?_, fun g hg => ?_⟩
          · rw [if_neg z, List.map_cons, List.nodup_cons]
            refine ⟨fun hm => ?_, i1⟩
            rcases i2 k hm with q | q
            · exact z q
            · exact hn.1 q
          · have hg' : g ∈ ((if k = f then (k, v) :: ys else (k, u) :: putF f v ys).map (·.1)) := hg
            rw [if_neg z, List.map_cons] at hg'
            rcases List.mem_cons.mp hg' with q | q
            · exact .inr (by rw [List.map_cons, q]; exact List.mem_cons_self)
            · rcases i2 g q with q | q
              · exact .inl q
              · exact .inr (by rw [List.map_cons]; exact List.mem_cons_of_mem _ q)
    exact (key fvs nd2).1
  · intro g hg
    have key : ∀ l : List (Str × V), ∀ g, g ∈ (putF f v l).map (·.1) → g = f ∨ g ∈ l.map (·.1) := by
      intro l
      induction l with
      | nil => intro g hg; exact .inl (by simpa [putF] using hg)
      | cons y ys ih =>
        intro g hg
        obtain ⟨k, u⟩ := y
        have hg' : g ∈ ((if k = f then (k, v) :: ys else (k, u) :: putF f v ys).map (·.1)) := hg
        by_cases z : k = f
        · rw [if_pos z, List.map_cons] at hg'
          rcases List.mem_cons.mp hg' with q | q
          · exact .inl (q.trans z)
          · exact .inr (List.mem_cons_of_mem _ q)
        · rw [if_neg z, List.map_cons] at hg'
          rcases List.mem_cons.mp hg' with q | q
          · exact .inr (by rw [List.map_cons, q]; exact List.mem_cons_self)
          · rcases ih g q with q | q
            · exact .inl q
            · exact .inr (List.mem_cons_of_mem _ q)
    rcases key fvs g hg with q | q
    · rw [q]; exact List.mem_of_getElem? hj
    · exact h.2.2.2 g q
theorem nodup_len : ∀ {l m : List Str}, l.Nodup → (∀ x ∈ l, x ∈ m) → l.length ≤ m.length := by
  intro l
  induction l with
  | nil => intro m _ _; simp
  | cons x xs ih =>
    intro m hn hs
    rw [List.nodup_cons] at hn
    have hx : x ∈ m := hs x List.mem_cons_self
    have h1 := ih (m := m.erase x) hn.2 fun y hy => by
      have hne : y ≠ x := fun e => hn.1 (e ▸ hy)
      exact (List.mem_erase_of_ne hne).mpr (hs y (List.mem_cons_of_mem _ hy))
    rw [List.length_erase_of_mem hx] at h1
    have : 0 < m.length := List.length_pos_of_mem hx
    simp only [List.length_cons]
    omega
theorem RepF.small {H : Hp} {ρ : Pl} {st : Sto} {nm : List Str} {fvs : List (Str × V)} {fs : List (Option W)} (h : RepF C H ρ st nm fvs fs) (hl : nm.length < 1000) : fvs.length < 1000 := by
  have := nodup_len h.2.2.1 h.2.2.2
  rw [List.length_map] at this
  omega
def passS : Sx := fun env st => .nx env st
def setFS (c j : Nat) (mo mv : Ex) : Sx := fun env st => (mv env st).toS fun w s1 => (mo env s1).toS fun x s2 => match x with
  | .loc l => match s2[l]? with
    | some (.ins c' fs) => if c' = c then .nx env (s2.set l (.ins c' (fs.set j (some w)))) else .no
    | _ => .no
  | _ => .no
theorem ins_write {H : Hp} {ρ : Pl} {st : Sto} {l c j : Nat} {a Cd dx : Addr} {nm : List Str} {f : Str} {fvs : List (Str × V)} {fs : List (Option W)} {v : V} {w : W} (S : RelS C H ρ st) (hc : C.cls[c]? = some (Cd, nm)) (nd : nm.Nodup) (hj : nm[j]? = some f)
    (h : ρ.pl[l]? = some a) (e : st[l]? = some (.ins c fs)) (q3 : RepF C H ρ st nm fvs fs) (r : Rep C.K H ρ st v w) :
    Evo H ρ st (upd H a (.ins Cd dx (putF f v fvs))) ρ (st.set l (.ins c (fs.set j (some w)))) ∧ RelS C (upd H a (.ins Cd dx (putF f v fvs))) ρ (st.set l (.ins c (fs.set j (some w)))) :=
  have ev : Evo H ρ st (upd H a (.ins Cd dx (putF f v fvs))) ρ (st.set l (.ins c (fs.set j (some w)))) := Evo.write h e (fun z => nomatch z)
  ⟨ev, S.write h e (fun z => nomatch z) ⟨Cd, nm, dx, _, hc, upd_same, (q3.put nd hj r).evo ev S.liv⟩⟩
theorem ms_fld {c j : Nat} {Cd : Addr} {nm : List Str} {f : Str} (hK : C.K = X.K) (hc : C.cls[c]? = some (Cd, nm)) (nd : nm.Nodup) (hl : nm.length < 1000) (hj : nm[j]? = some f) (cl : Cls X.K Cd) (na : NoAttr X.K Cd f) (ho : ME X C E o mo) (hv : ME X C E value mv)
    (hs : swapsWith value (some (.Attribute o f pos')) pos.line X.env = pure false := by rfl) : MS X C E (.Assign [.Attribute o f pos'] value pos) (setFS c j mo mv) := by
  refine PS.imp (ps_fld ho hv hs) fun D σ H ⟨ρ, st, env, re, S, p⟩ => ⟨ρ, st, env, re, S, PostS.bind p fun w s1 H1 ρ1 v hw e1 S1 r1 p1 => ?_⟩
  have re1 := re.evo e1 S.liv
  refine ⟨ρ1, s1, env, re1, S1, PostS.bind p1 fun x s2 H2 ρ2 u hx e2 S2 r2 p2 => ?_⟩
  have re2 := re1.evo e2 S1.liv
  split at p2
  · split at p2
    · rename_i c' fs es
      split at p2
      · rename_i ec
        subst ec
        cases r2 with
        | @loc a l q =>
          obtain ⟨Cd', nm', dx, fvs, q1, q2, q3⟩ := S2.obj _ a _ q es
          rw [hc] at q1; cases q1
          obtain ⟨ev, S3⟩ := ins_write (dx := dx) S2 hc nd hj q es q3 (r1.evo e2 S1.liv)
          exact ⟨a, Cd, dx, fvs, rfl, q2, cl, na, q3.small hl, p2 _ ρ2 σ ev S3 (re2.evo ev S2.liv)⟩
      · exact p2.elim
    · exact p2.elim
  · exact p2.elim
/-- o.f op= e; o.f read ahead of e -/
def augFS (c j : Nat) (f : W → W → Sto → R W) (mo mv : Ex) : Sx := fun env st => (mo env st).toS fun x s1 => (fldW c j x s1).toS fun y s2 => (mv env s2).toS fun w s3 => (f y w s3).toS fun z s4 => match x with
  | .loc l => match s4[l]? with
    | some (.ins c' fs) => if c' = c then .nx env (s4.set l (.ins c' (fs.set j (some z)))) else .no
    | _ => .no
  | _ => .no
theorem ms_fldaug {c j : Nat} {Cd : Addr} {nm : List Str} {f : Str} {op : Operator} {rd : V → V → Hp → VK → Prop} {g : W → W → Sto → R W} (hg : OpM C E rd g) (hop : InOp X op rd) (hK : C.K = X.K) (hc : C.cls[c]? = some (Cd, nm)) (nd : nm.Nodup) (hl : nm.length < 1000) (hj : nm[j]? = some f)
    (cl : Cls X.K Cd) (na : NoAttr X.K Cd f) (ho : ME X C E o mo) (hv : ME X C E value mv) : MS X C E (.AugAssign (.Attribute o f tpos) op value pos) (augFS c j g mo mv) := by
  refine PS.imp (ps_fldaug ho hv hop) fun D σ H ⟨ρ, st, env, re, S, p⟩ => ⟨ρ, st, env, re, S, PostS.bind p fun x s1 H1 ρ1 v hx e1 S1 r1 p1 => ?_⟩
  have re1 := re.evo e1 S.liv
  unfold fldW at p1
  split at p1
  · rename_i l
    split at p1
    · rename_i c' fs es
      split at p1
      · rename_i ec
        subst ec
        split at p1
        · rename_i y ew
          rw [R.toS_ok] at p1
          have rl := r1
          cases r1 with
          | @loc a l q =>
            obtain ⟨Cd', nm', dx, fvs, q1, q2, q3⟩ := S1.obj _ a _ q es
            rw [hc] at q1; cases q1
            obtain ⟨vv, l1, l2⟩ := q3.2.1 j f y hj ew
            refine ⟨a, Cd, dx, fvs, vv, rfl, q2, cl, na, l1, ?_⟩
            refine ⟨ρ1, s1, env, re1, S1, PostS.bind p1 fun w s3 H3 ρ3 u hw e3 S3 r3 p3 => ?_⟩
            have re3 := re1.evo e3 S1.liv
            refine hg H3 ρ3 s3 vv u y w _ S3 (l2.evo e3 S1.liv) r3 (PostS.bind p3 fun z s4 H4 ρ4 zv hz e4 S4 r4 p4 => ?_)
            have q4 : ρ4.pl[_]? = some a := e4.pre _ _ (e3.pre _ _ q)
            split at p4
            · rename_i c'' fs' es'
              split at p4
              · rename_i ec'
                subst ec'
                obtain ⟨Cd', nm', dx', fvs', q1', q2', q3'⟩ := S4.obj _ a _ q4 es'
                rw [hc] at q1'; cases q1'
                obtain ⟨ev, S5⟩ := ins_write (dx := dx') S4 hc nd hj q4 es' q3' r4
                exact ⟨dx', fvs', q2', q3'.small hl, p4 _ ρ4 σ ev S5 ((re3.evo e4 S3.liv).evo ev S4.liv)⟩
              · exact p4.elim
            · exact p4.elim
        · exact p1.elim
      · exact p1.elim
    · exact p1.elim
  · exact p1.elim
theorem om_rAdd : OpM C E rAdd (int0 fun i j => .int (i + j)) := by
  intro H ρ st v u x y Q S rx ry p
  unfold int0 at p
  split at p
  · cases rx; cases ry
    exact ⟨_, _, rfl, rfl, p H ρ _ (Evo.refl ..) S (.int _)⟩
  · exact p.elim
theorem om_rSub : OpM C E rSub (int0 fun i j => .int (i - j)) := by
  intro H ρ st v u x y Q S rx ry p
  unfold int0 at p
  split at p
  · cases rx; cases ry
    exact ⟨_, _, rfl, rfl, p H ρ _ (Evo.refl ..) S (.int _)⟩
  · exact p.elim

/-! ### statements -/
def sqS (a b : Sx) : Sx := fun env st => (a env st).go b
variable {s : Stmt} {ss : List Stmt} {m1 m2 : Sx}
theorem mss_nil : MSs X C E [] passS := PSs.imp pss_nil fun D σ H ⟨ρ, st, env, re, S, p⟩ => p H ρ σ (Evo.refl ..) S re
theorem mss_cons (h1 : MS X C E s m1) (h2 : MSs X C E ss m2) : MSs X C E (s :: ss) (sqS m1 m2) := by
  refine PSs.imp (pss_cons h1 h2) fun D σ H ⟨ρ, st, env, re, S, p⟩ => ⟨ρ, st, env, re, S, ?_⟩
  unfold sqS at p
  cases h : m1 env st with
  | nx env' st' => rw [h] at p; exact fun H' ρ' σ' e' S' re' => ⟨ρ', st', env', re', S', PostS.shift p e'⟩
  | rt w st' => rw [h] at p; exact p
  | bk e' st' => rw [h] at p; exact p
  | ct e' st' => rw [h] at p; exact p
  | ex c' st' => rw [h] at p; exact p
  | no => rw [h] at p; exact p
theorem mss_one (h1 : MS X C E s m1) : MSs X C E [s] m1 := pss_one h1
theorem ms_pass : MS X C E (.Pass pos) passS := PS.imp ps_pass fun D σ H ⟨ρ, st, env, re, S, p⟩ => p H ρ σ (Evo.refl ..) S re
def bkS : Sx := fun env st => .bk env st
def ctS : Sx := fun env st => .ct env st
theorem ms_break : MS X C E (.Break pos) bkS := PS.imp ps_break fun D σ H ⟨ρ, st, env, re, S, p⟩ => p H ρ σ (Evo.refl ..) S re
theorem ms_continue : MS X C E (.Continue pos) ctS := PS.imp ps_continue fun D σ H ⟨ρ, st, env, re, S, p⟩ => p H ρ σ (Evo.refl ..) S re
def exS (m : Ex) : Sx := fun env st => (m env st).toS fun _ s => .nx env s
theorem ms_expr (h : ME X C E e ma) (hs : swapsWith e none pos.line X.env = pure false := by rfl) : MS X C E (.Expr e pos) (exS ma) :=
  PS.imp (ps_expr h hs) fun D σ H ⟨ρ, st, env, re, S, p⟩ => ⟨ρ, st, env, re, S, PostS.bind p fun w s1 H1 ρ1 v hw e1 S1 r1 p1 => p1 H1 ρ1 σ (Evo.refl ..) S1 (re.evo e1 S.liv)⟩
def rtS (m : Ex) : Sx := fun env st => (m env st).toS fun w s => .rt w s
def rnS : Sx := fun _ st => .rt .non st
theorem ms_ret (h : ME X C E e ma) : MS X C E (.Return (some e) pos) (rtS ma) :=
  PS.imp (ps_ret h) fun D σ H ⟨ρ, st, env, re, S, p⟩ => ⟨ρ, st, env, re, S, PostS.bind p fun w s1 H1 ρ1 v hw e1 S1 r1 p1 => p1 H1 ρ1 v (Evo.refl ..) S1 r1⟩
theorem ms_retN : MS X C E (.Return none pos) rnS := PS.imp ps_retN fun D σ H ⟨ρ, st, env, re, S, p⟩ => p H ρ _ (Evo.refl ..) S .non
def ifS (c : Bx) (a b : Sx) : Sx := fun env st => (c env st).toS fun k s => if k = true then a env s else b env s
theorem ms_if {as bs : List Stmt} {kc : Bx} (hc : MT X C E c kc) (ha : MSs X C E as m1) (hb : MSs X C E bs m2) : MS X C E (.If c as bs pos) (ifS kc m1 m2) := by
  refine PS.imp (ps_if hc ha hb) fun D σ H ⟨ρ, st, env, re, S, p⟩ => ⟨ρ, st, env, re, S, PostS.bind (rel := relB) p fun w s1 H1 ρ1 v hw e1 S1 r1 p1 => ?_⟩
  have r1 : v = w := r1
  subst r1
  cases v with
  | true => exact (if_pos rfl).mpr ⟨ρ1, s1, env, re.evo e1 S.liv, S1, p1⟩
  | false => exact (if_neg (by decide)).mpr ⟨ρ1, s1, env, re.evo e1 S.liv, S1, p1⟩
def setS (i : Nat) (m : Ex) : Sx := fun env st => (m env st).toS fun w s => .nx (env.set i (some w)) s
theorem ms_set {i : Nat} {x : Str} {pos' : Pos} (hN : X.N.Nodup) (hi : X.N[i]? = some x) (hx : Loc X.env.scope x) (h : ME X C E e ma) (hs : swapsWith e (some (.Name x pos')) pos.line X.env = pure false := by rfl)
    (hf : X.fn x = true ∨ X.env.scope.names.lookup x = some .local := by first | exact .inl rfl | exact .inr rfl | assumption) : MS X C E (.Assign [.Name x pos'] e pos) (setS i ma) :=
  PS.imp (ps_set hN hi hx h hs hf) fun D σ H ⟨ρ, st, env, re, S, p⟩ => ⟨ρ, st, env, re, S, PostS.bind p fun w s1 H1 ρ1 v hw e1 S1 r1 p1 => p1 H1 ρ1 _ (Evo.refl ..) S1 ((re.evo e1 S.liv).set r1 i)⟩
/-! targets -/
def tMG (C : MC) (E : XK) (g : W → En → Sto → R En) : TG := fun v σ H Q => ∃ ρ st env w, RelE C.K H ρ st σ env ∧ RelS C H ρ st ∧ Rep C.K H ρ st v w ∧ Post (fun H ρ st σ env => RelE C.K H ρ st σ env) C E H ρ st (g w env st) Q
def tMGs (C : MC) (E : XK) (g : List W → En → Sto → R En) : TGs := fun vs σ H Q => ∃ ρ st env ws, RelE C.K H ρ st σ env ∧ RelS C H ρ st ∧ RepL C.K H ρ st vs ws ∧ Post (fun H ρ st σ env => RelE C.K H ρ st σ env) C E H ρ st (g ws env st) Q
def MG (X : Cx) (C : MC) (E : XK) (t : Expr) (g : W → En → Sto → R En) : Prop := PG X t (tMG C E g)
def MGs (X : Cx) (C : MC) (E : XK) (t : List Expr) (g : List W → En → Sto → R En) : Prop := PGs X t (tMGs C E g)
theorem PG.imp {e : Expr} {t t' : TG} (h : PG X e t) (k : ∀ v σ H Q, t' v σ H Q → t v σ H Q) : PG X e t' := ⟨fun pins s σ H v u Q I r q => h.run pins s σ H v u Q I r (k _ _ _ _ q)⟩
theorem PGs.imp {e : List Expr} {t t' : TGs} (h : PGs X e t) (k : ∀ v σ H Q, t' v σ H Q → t v σ H Q) : PGs X e t' := ⟨fun pins s σ H v u Q I r q => h.run pins s σ H v u Q I r (k _ _ _ _ q)⟩
def gNm (i : Nat) : W → En → Sto → R En := fun w env st => .ok (env.set i (some w)) st
theorem mg_name {i : Nat} {x : Str} (hN : X.N.Nodup) (hi : X.N[i]? = some x) (hx : Loc X.env.scope x) (hf : X.fn x = true ∨ X.env.scope.names.lookup x = some .local := by first | exact .inl rfl | exact .inr rfl | assumption) : MG X C E (.Name x pos) (gNm i) :=
  PG.imp (pg_name hN hi hx hf) fun v σ H Q ⟨ρ, st, env, w, re, S, r, p⟩ => p H ρ _ (Evo.refl ..) S (re.set r i)
def gsN : List W → En → Sto → R En := fun ws env st => match ws with
  | [] => .ok env st
  | _ => .no
def gsC (g : W → En → Sto → R En) (gs : List W → En → Sto → R En) : List W → En → Sto → R En := fun ws env st => match ws with
  | w :: ws => (g w env st).bind fun env' st' => gs ws env' st'
  | [] => .no
theorem mgs_nil : MGs X C E [] gsN := PGs.imp pgs_nil fun v σ H Q ⟨ρ, st, env, w, re, S, r, p⟩ => by
  cases r with
  | nil => exact ⟨rfl, p H ρ _ (Evo.refl ..) S re⟩
  | cons _ _ => exact p.elim
theorem mgs_cons {g : W → En → Sto → R En} {gs : List W → En → Sto → R En} (h1 : MG X C E e g) (h2 : MGs X C E es gs) (hs : (assignEach (e :: es) X.env).map (·.2) = assign e X.env :: (assignEach es X.env).map (·.2) := by rfl) : MGs X C E (e :: es) (gsC g gs) :=
  PGs.imp (pgs_cons h1 h2 hs) fun v σ H Q ⟨ρ, st, env, w, re, S, r, p⟩ => by
    cases r with
    | nil => exact p.elim
    | @cons v vs w ws r1 r2 =>
      refine ⟨v, vs, rfl, ρ, st, env, w, re, S, r1, ?_⟩
      exact Post.bind p fun env' s1 H1 ρ1 σ1 hw e1 S1 re1 p1 => ⟨ρ1, s1, env', ws, re1, S1, r2.evo e1 S.liv, p1⟩
def gTp (n : Nat) (gs : List W → En → Sto → R En) : W → En → Sto → R En := fun w env st => match w with
  | .tup ws => if ws.length = n then gs ws env st else .no
  | _ => .no
theorem mg_tup {kk n : Nat} {gs : List W → En → Sto → R En} (hK : C.K = X.K) (hc : X.calm = true) (h : MGs X C E es gs) (hn : (assignEach es X.env).length = n := by rfl) (hst : (assignEach es X.env).findIdx? (·.1) = none := by rfl) : MG X C E (.Tuple es kk pos) (gTp n gs) :=
  PG.imp (pg_tup hc h hn hst) fun v σ H Q ⟨ρ, st, env, w, re, S, r, p⟩ => by
    unfold gTp at p
    split at p
    · split at p
      · rename_i hl
        cases r with
        | tup q1 q2 => exact ⟨_, _, rfl, hK ▸ q1, by rw [q2.length]; exact hl, ρ, st, env, _, re, S, q2, p⟩
      · exact p.elim
    · exact p.elim
/-- xs[i] = .. -/
def setI (o i w : W) (s : Sto) : R Unit := match o, i with
  | .loc l, .int k => match s[l]? with
    | some (.lst ws) => match ixN ws.length k with
      | some j => .ok () (s.set l (.lst (ws.set j w)))
      | none => .no
    | _ => .no
  | _, _ => .no
def gSb (o i : Ex) : W → En → Sto → R En := fun w env st => (o env st).bind fun x s1 => (i env s1).bind fun y s2 => (setI x y w s2).bind fun _ s3 => .ok env s3
theorem mg_sub (ho : ME X C E o mo) (hi : ME X C E a ma)
    (hs : ∀ v, assign (.Subscript o a pos) X.env v = (do
      let ov ← holding [v] (eval o X.env)
      let iv ← holding [v, ov] (eval a X.env)
      standAt pos
      holding [v, ov, iv] (setItem ov iv v)
      release [v, ov, iv] []) := by intro _; rfl) : MG X C E (.Subscript o a pos) (gSb mo ma) :=
  PG.imp (pg_sub ho hi set_list hs) fun v σ H Q ⟨ρ, st, env, w, re, S, r, p⟩ => by
    refine ⟨ρ, st, env, re, S, Post.bind p fun x s1 H1 ρ1 vx hx e1 S1 r1 p1 => ?_⟩
    have re1 := re.evo e1 S.liv
    refine ⟨ρ1, s1, env, re1, S1, Post.bind p1 fun y s2 H2 ρ2 vy hy e2 S2 r2 p2 => ?_⟩
    have re2 := re1.evo e2 S1.liv
    have rx := r1.evo e2 S1.liv
    have rw_ := (r.evo e1 S.liv).evo e2 S1.liv
    unfold setI at p2
    split at p2
    · split at p2
      · rename_i ws es
        split at p2
        · rename_i j hj
          cases r2
          cases rx with
          | @loc a l q =>
            obtain ⟨zs, hz, rz⟩ := S2.obj _ a _ q es
            obtain ⟨ev, S3⟩ := lst_write S2 q es (rz.set rw_ j)
            exact ⟨a, zs, _, j, rfl, rfl, hz, by rw [rz.length]; exact hj, p2 _ ρ2 σ ev S3 (re2.evo ev S2.liv)⟩
        · exact p2.elim
      · exact p2.elim
    · exact p2.elim
def asgS (m : Ex) (g : W → En → Sto → R En) : Sx := fun env st => (m env st).toS fun w s => (g w env s).toS fun env' s' => .nx env' s'
theorem ms_asg {t : Expr} {g : W → En → Sto → R En} (h : ME X C E e ma) (hg : MG X C E t g) (hs : swapsWithSole [t] e pos.line X.env = pure false := by rfl) (hw : swappedStores [t] e X.env = pure none := by rfl)
    (h1 : (assignEach [t] X.env).map (·.2) = [assign t X.env] := by rfl) : MS X C E (.Assign [t] e pos) (asgS ma g) :=
  PS.imp (ps_asg h hg hs hw h1) fun D σ H ⟨ρ, st, env, re, S, p⟩ => ⟨ρ, st, env, re, S, PostS.bind p fun w s1 H1 ρ1 v hw e1 S1 r1 p1 =>
    ⟨ρ1, s1, env, w, re.evo e1 S.liv, S1, r1, PostS.bind p1 fun env' s2 H2 ρ2 σ2 hw2 e2 S2 re2 p2 => p2 H2 ρ2 σ2 (Evo.refl ..) S2 re2⟩⟩
/-- a, b = x, y: plain names -/
def parS (i j : Nat) (m : Ax) : Sx := fun env st => (m env st).toS fun ws s => match ws with
  | [v, w] => .nx ((env.set i (some v)).set j (some w)) s
  | _ => .no
theorem ms_par {i j : Nat} {x y : Str} {px py pt : Pos} {kt k2 pt2} (hc : X.calm = true) (hN : X.N.Nodup) (hi : X.N[i]? = some x) (hj : X.N[j]? = some y) (hij : i ≠ j)
    (hx : X.env.scope.names.lookup x = some .local) (hy : X.env.scope.names.lookup y = some .local) (ha : MA' X C E [a, b] mr)
    (hw : swappedStores [.Tuple [.Name x px, .Name y py] kt pt] (.Tuple [a, b] k2 pt2) X.env = pure (some [x, y]))
    (hs : swapsWithSole [.Tuple [.Name x px, .Name y py] kt pt] (.Tuple [a, b] k2 pt2) pos.line X.env = pure false := by rfl) :
    MS X C E (.Assign [.Tuple [.Name x px, .Name y py] kt pt] (.Tuple [a, b] k2 pt2) pos) (parS i j mr) :=
  PS.imp (ps_par hc hN hi hj hij hx hy ha.pa hw hs) fun D σ H ⟨ρ, st, env, re, S, p⟩ => ⟨ρ, st, env, re, S, PostS.bind p fun ws s1 H1 ρ1 vs hw e1 S1 r1 p1 => by
    split at p1
    · obtain ⟨v, u, rfl, q1, q2⟩ := r1.two
      exact ⟨v, u, rfl, p1 H1 ρ1 _ (Evo.refl ..) S1 (((re.evo e1 S.liv).set q1 i).set q2 j)⟩
    · exact p1.elim⟩
/-- name op= e -/
def augS (i : Nat) (f : W → W → Sto → R W) (m : Ex) : Sx := fun env st => (vr i env st).toS fun x s0 => (m env s0).toS fun y s1 => (f x y s1).toS fun z s2 => .nx (env.set i (some z)) s2
theorem ms_aug {i : Nat} {x : Str} {op : Operator} {ti : TIp} {pos' : Pos} {f : W → W → Sto → R W} (hN : X.N.Nodup) (hi : X.N[i]? = some x) (hx : Loc X.env.scope x) (he : ME X C E e ma) (ho : PIp X op ti) (hf' : OpM C E ti f)
    (hf : X.fn x = true ∨ X.env.scope.names.lookup x = some .local := by first | exact .inl rfl | exact .inr rfl | assumption) : MS X C E (.AugAssign (.Name x pos') op e pos) (augS i f ma) :=
  PS.imp (ps_aug hN hi hx he ho hf) fun D σ H ⟨ρ, st, env, re, S, p⟩ => by
    unfold augS vr at p
    split at p
    · rename_i w ew
      rw [R.toS_ok] at p
      obtain ⟨v, q, r⟩ := re.2 i w ew
      refine ⟨v, q, ρ, st, env, re, S, PostS.bind p fun y s1 H1 ρ1 u hw e1 S1 r1 p1 => ?_⟩
      refine hf' H1 ρ1 s1 v u w y _ S1 (r.evo e1 S.liv) r1 (PostS.bind p1 fun z s2 H2 ρ2 zv hz e2 S2 r2 p2 => ?_)
      exact p2 H2 ρ2 _ (Evo.refl ..) S2 (((re.evo e1 S.liv).evo e2 S1.liv).set r2 i)
    · exact p.elim
theorem om_ipI {g : Int → Int → Int} : OpM C E (ipI g) (int0 fun i j => .int (g i j)) := by
  intro H ρ st v u x y Q S rx ry p
  unfold int0 at p
  split at p
  · cases rx; cases ry
    exact ⟨_, _, rfl, rfl, p H ρ _ (Evo.refl ..) S (.int _)⟩
  · exact p.elim
end
end
end ML

/-! ML5: loops, comprehensions, defs -/
namespace ML
open PySem L2
noncomputable section
variable {X : Cx} {C : MC} {E : XK} {a b c e o value : Expr} {ma mb mc mo mv : Ex} {pos pos' tpos : Pos} {es : List Expr} {mr : Ax}
/-! ### while: with a number of turns that is enough -/
def lpS (b : Sx) (k : Sx) : Sx := fun env st => (b env st).lp k
def whF (c : Bx) (b : Sx) : Nat → Sx
  | 0 => fun _ _ => .no
  | n + 1 => fun env st => (c env st).toS fun k s1 => if k = true then lpS b (whF c b n) env s1 else .nx env s1
def whS (fuel : En → Sto → Nat) (c : Bx) (b : Sx) : Sx := fun env st => whF c b (fuel env st) env st
/-- a loop's body, what comes behind it known -/
theorem lp_of {H : Hp} {ρ : Pl} {st : Sto} {σ : St} {env : En} {b k : Sx} {D : Ends} {N : St → Hp → Prop} (re : RelE C.K H ρ st σ env) (S : RelS C H ρ st) (p : PostS C E H ρ st (lpS b k env st) D)
    (hN : ∀ H' ρ' σ' env' st', RelE C.K H' ρ' st' σ' env' → RelS C H' ρ' st' → PostS C E H' ρ' st' (k env' st') D → N σ' H') : tMS C E b { D with nx := N, ct := N, bk := D.nx } σ H := by
  refine ⟨ρ, st, env, re, S, ?_⟩
  unfold lpS at p
  cases h : b env st with
  | nx env' st' => rw [h] at p; exact fun H' ρ' σ' e' S' re' => hN _ _ _ _ _ re' S' (PostS.shift p e')
  | ct env' st' => rw [h] at p; exact fun H' ρ' σ' e' S' re' => hN _ _ _ _ _ re' S' (PostS.shift p e')
  | bk env' st' => rw [h] at p; exact p
  | rt w st' => rw [h] at p; exact p
  | ex c' st' => rw [h] at p; exact p
  | no => rw [h] at p; exact p
theorem ms_while (fuel : En → Sto → Nat) {body : List Stmt} {kc : Bx} {mb : Sx} (hp : PassesOwn (model X.prog X.w) X.A X.env X.xe) (hc : MT X C E c kc) (hb : MSs X C E body mb) : MS X C E (.While c body [] pos) (whS fuel kc mb) := by
  refine PS.imp (ps_while hp hc hb) fun D σ H ⟨ρ, st, env, re, S, p⟩ => ?_
  refine ⟨fun m σ H => ∃ ρ st env, RelE C.K H ρ st σ env ∧ RelS C H ρ st ∧ PostS C E H ρ st (whF kc mb m env st) D, ⟨fuel env st, ρ, st, env, re, S, p⟩, ?_⟩
  rintro m σ H ⟨ρ, st, env, re, S, p⟩
  cases m with
  | zero => exact p.elim
  | succ n =>
    refine ⟨ρ, st, env, re, S, PostS.bind (rel := relB) p fun k s1 H1 ρ1 v hk e1 S1 r1 p1 => ?_⟩
    have r1 : v = k := r1
    subst r1
    cases v with
    | false => exact (if_neg (by decide)).mpr (p1 H1 ρ1 σ (Evo.refl ..) S1 (re.evo e1 S.liv))
    | true =>
      refine (if_pos rfl).mpr ⟨fun σ' H' => ∃ ρ st env, RelE C.K H' ρ st σ' env ∧ RelS C H' ρ st ∧ PostS C E H' ρ st (whF kc mb n env st) D, fun σ' H' q => ⟨n, Nat.lt_succ_self n, q⟩, ?_⟩
      exact lp_of (re.evo e1 S.liv) S1 p1 fun H' ρ' σ' env' st' re' S' p' => ⟨ρ', st', env', re', S', p'⟩

/-! ### what is walked -/
/-- known items, or what is read off the state at each turn (with a number of turns that is enough) -/
inductive Src where
  | st (ws : List W)
  | dy (n : Nat) (f : Nat → Sto → Option (Option W))
def Src.at : Src → Nat → Sto → Option (Option W)
  | .st ws, i, _ => some ws[i]?
  | .dy _ f, i, s => f i s
def Src.n : Src → Nat
  | .st ws => ws.length + 1
  | .dy n _ => n
def ItRel (C : MC) (J : It) (H : Hp) (ρ : Pl) (st : Sto) (src : Src) : Prop := ∀ H' ρ' st', Evo H ρ st H' ρ' st' → RelS C H' ρ' st' → ∀ (i : Nat) (o : Option W), src.at i st' = some o → match o with
  | some w => J.go i H' ∧ ∀ x H'', J.yld i H' x H'' → Evo H' ρ' st' H'' ρ' st' ∧ RelS C H'' ρ' st' ∧ Rep C.K H'' ρ' st' x w
  | none => J.stop i H'
theorem ItRel.evo {J : It} {H H' : Hp} {ρ ρ' : Pl} {st st' : Sto} {src : Src} (h : ItRel C J H ρ st src) (e : Evo H ρ st H' ρ' st') : ItRel C J H' ρ' st' src := fun H2 ρ2 st2 e2 => h H2 ρ2 st2 (e.trans e2)
abbrev Ix := En → Sto → R Src
abbrev relSrc (C : MC) : Hp → Pl → Sto → It → Src → Prop := fun H ρ st J src => ItRel C J H ρ st src
def tMI (C : MC) (E : XK) (m : Ix) : TI := fun σ H R => ∃ ρ st env, RelE C.K H ρ st σ env ∧ RelS C H ρ st ∧ Post (relSrc C) C E H ρ st (m env st) R
def MI (X : Cx) (C : MC) (E : XK) (tg iter : Expr) (m : Ix) : Prop := PI X tg iter (tMI C E m)
theorem PI.imp {tg iter : Expr} {t t' : TI} (h : PI X tg iter t) (k : ∀ σ H R, t' σ H R → t σ H R) : PI X tg iter t' := ⟨fun pins s σ H R I q => h.run pins s σ H R I (k _ _ _ q)⟩
/-- a list or a tuple -/
theorem pi_seq {tg l : Expr} {tl : TE} (hl : PE X l tl) : PI X tg l (fun σ H R => tl σ H fun x H1 => ∃ a, x = .ref a ∧ (((∃ xs, SqL X.K H1 a xs) ∧ R (Itl X.K a) H1) ∨ ((∃ xs, SqT X.K H1 a xs) ∧ R (Itt X.K a) H1))) := by
  constructor
  intro pins s σ H R I h
  refine thn (hl.run pins s σ H _ I h) fun v s1 ⟨x, H1, I1, r1, a, ex, q⟩ => ?_
  subst ex
  cases r1
  have fp : ∀ b ∈ [s1.heap.objs.size], FpOk X pins H1 b := fun b hb => (List.mem_singleton.mp hb).symm ▸ I1.fpOk (Nat.le_refl _) (I1.hok.fresh (Nat.le_refl _))
  rcases q with ⟨⟨xs, hq⟩, q⟩ | ⟨⟨xs, hq⟩, q⟩
  · obtain ⟨its, rv, p, hz⟩ := I1.list hq
    exact wpAny_pyIter_list p.isList ⟨_, [_], _, _, H1, rfl, I1.kept (t' := s1.toks) fun b o e => Heap.get?_push_of_some _ e, turn_list a _, ⟨_, Heap.get?_push_size _ rfl, rfl, rfl⟩, fp, q⟩
  · obtain ⟨its, rv, p, hz⟩ := I1.tuple hq
    exact wpAny_pyIter_tuple (show s1.heap.IsTuple a its.toArray from p) ⟨_, [_], _, _, H1, rfl, I1.kept (t' := s1.toks) fun b o e => Heap.get?_push_of_some _ e, turn_tuple a _, ⟨_, Heap.get?_push_size _ rfl, rfl, rfl⟩, fp, q⟩
def srcL (g : Nat → W → W) (w : W) (s : Sto) : Option Src := match w with
  | .fl ws => some (.st (ws.zipIdx.map fun p => g p.2 p.1))
  | .kl ws => some (.st (ws.zipIdx.map fun p => g p.2 p.1))
  | w => match lstOf s w with
    | some ws => some (.dy (ws.length + 1) fun i st' => (lstOf st' w).map fun ws => ws[i]?.map (g i))
    | none => none
theorem srcL_lst {g : Nat → W → W} {w : W} {s : Sto} {src : Src} (h : srcL g w s = some src) : ∃ ws, lstK s w = some ws := by
  unfold srcL at h
  cases w with
  | fl ws => exact ⟨ws, rfl⟩
  | kl ws => exact ⟨ws, rfl⟩
  | loc l =>
    simp only at h
    split at h
    · rename_i ws e; exact ⟨ws, e⟩
    · cases h
  | _ => simp [lstOf] at h
theorem srcL_at {g : Nat → W → W} {w : W} {s : Sto} {src : Src} (h : srcL g w s = some src) {st' : Sto} {i : Nat} {o : Option W} (ho : src.at i st' = some o) : ∃ ws, lstK st' w = some ws ∧ o = ws[i]?.map (g i) := by
  unfold srcL at h
  cases w with
  | fl ws => cases h; cases ho; exact ⟨ws, rfl, by simp [List.getElem?_map, List.getElem?_zipIdx]; rfl⟩
  | kl ws => cases h; cases ho; exact ⟨ws, rfl, by simp [List.getElem?_map, List.getElem?_zipIdx]; rfl⟩
  | loc l =>
    simp only at h
    split at h
    · cases h
      have ho : (lstOf st' (.loc l)).map (fun ws => ws[i]?.map (g i)) = some o := ho
      rw [Option.map_eq_some_iff] at ho
      obtain ⟨ws, e, q⟩ := ho
      exact ⟨ws, e, q.symm⟩
    · cases h
  | _ => simp [lstOf] at h
def sqI (m : Ex) : Ix := fun env st => (m env st).bind fun w s => match w with
  | .tup ws => .ok (.st ws) s
  | .fl ws => .ok (.st ws) s
  | .kl ws => .ok (.st ws) s
  | w => match srcL (fun _ w => w) w s with
    | some src => .ok src s
    | none => .no
theorem itl_rel {H : Hp} {ρ : Pl} {st s : Sto} {a : Addr} {w : W} {src : Src} (S : RelS C H ρ st) (r : Rep C.K H ρ st (.ref a) w) (h : ∀ st' i o, src.at i st' = some o → ∃ ws, lstK st' w = some ws ∧ o = ws[i]?) : ItRel C (Itl C.K a) H ρ st src := by
  intro H' ρ' st' ev S' i o ho
  have r' := r.evo ev S.liv
  obtain ⟨ws, e, eo⟩ := h _ _ _ ho
  obtain ⟨a', vs', ea, q', rr⟩ := lstK_rep S' r' e
  cases ea
  subst eo
  cases ei : ws[i]? with
  | none => exact ⟨vs', q', by rw [rr.length]; exact List.getElem?_eq_none_iff.mp ei⟩
  | some x =>
    obtain ⟨v, hv, rv⟩ := rr.get ei
    refine ⟨⟨vs', v, q', hv⟩, fun y H'' hy => ?_⟩
    obtain ⟨eH, hy⟩ := hy
    have := hy vs' q'
    rw [hv] at this; cases this
    rw [eH]
    exact ⟨Evo.refl .., S', rv⟩
theorem itt_rel {H : Hp} {ρ : Pl} {st : Sto} {a : Addr} {vs : List V} {ws : List W} (S : RelS C H ρ st) (q : SqT C.K H a vs) (r : RepL C.K H ρ st vs ws) : ItRel C (Itt C.K a) H ρ st (.st ws) := by
  intro H' ρ' st' ev S' i o ho
  have q' := SqT.evo ev S.liv q
  have rr := r.evo ev S.liv
  cases ho
  cases ei : ws[i]? with
  | none => exact ⟨vs, q', by rw [rr.length]; exact List.getElem?_eq_none_iff.mp ei⟩
  | some x =>
    obtain ⟨v, hv, rv⟩ := rr.get ei
    refine ⟨⟨vs, v, q', hv⟩, fun y H'' hy => ?_⟩
    obtain ⟨eH, hy⟩ := hy
    have := hy vs q'
    rw [hv] at this; cases this
    rw [eH]
    exact ⟨Evo.refl .., S', rv⟩
theorem mi_seq {tg l : Expr} {ml : Ex} (hK : C.K = X.K) (hl : ME X C E l ml) : MI X C E tg l (sqI ml) := by
  refine PI.imp (pi_seq hl) fun σ H R ⟨ρ, st, env, re, S, p⟩ => ⟨ρ, st, env, re, S, Post.bind (rel := relW C) p fun w s1 H1 ρ1 v hw e1 S1 r1 p1 => ?_⟩
  rw [← hK]
  have lk : ∀ ws, lstK s1 w = some ws → Post (relSrc C) C E H1 ρ1 s1 (.ok (.st ws) s1) R → (∀ st', lstK st' w = some ws) → ∃ a, v = .ref a ∧ (((∃ xs, SqL C.K H1 a xs) ∧ R (Itl C.K a) H1) ∨ ((∃ xs, SqT C.K H1 a xs) ∧ R (Itt C.K a) H1)) := fun ws h p hk => by
    obtain ⟨a, vs, rfl, q, r⟩ := lstK_rep S1 r1 h
    exact ⟨a, rfl, .inl ⟨⟨vs, q⟩, p H1 ρ1 _ (Evo.refl ..) S1 (itl_rel (s := s1) S1 r1 fun st' i o ho => ⟨ws, hk st', by cases ho; rfl⟩)⟩⟩
  split at p1
  · cases r1 with
    | tup q r => exact ⟨_, rfl, .inr ⟨⟨_, q⟩, p1 H1 ρ1 _ (Evo.refl ..) S1 (itt_rel S1 q r)⟩⟩
  · exact lk _ rfl p1 fun _ => rfl
  · exact lk _ rfl p1 fun _ => rfl
  · split at p1
    · rename_i src e0
      obtain ⟨ws, ek⟩ := srcL_lst e0
      obtain ⟨a, vs, rfl, q, r⟩ := lstK_rep S1 r1 ek
      exact ⟨a, rfl, .inl ⟨⟨vs, q⟩, p1 H1 ρ1 _ (Evo.refl ..) S1 (itl_rel (s := s1) S1 r1 fun st' i o ho => by
        obtain ⟨ws, h1, h2⟩ := srcL_at e0 ho
        exact ⟨ws, h1, by rw [h2]; simp⟩)⟩⟩
    · exact p1.elim
/-- range -/
def rngL (lo : Int) (n : Nat) : List W := (List.range n).map fun (i : Nat) => W.int (lo + (i : Int))
theorem itr_rel {H : Hp} {ρ : Pl} {st : Sto} {lo : Int} {n : Nat} : ItRel C (Itr lo n) H ρ st (.st (rngL lo n)) := by
  intro H' ρ' st' ev S' i o ho
  cases ho
  unfold rngL
  rw [List.getElem?_map]
  by_cases hi : i < n
  · rw [List.getElem?_range hi]
    refine ⟨hi, fun x H'' hy => ?_⟩
    obtain ⟨e1, e2⟩ := hy
    rw [e1, e2]
    exact ⟨Evo.refl .., S', .int _⟩
  · rw [List.getElem?_eq_none_iff.mpr (by simpa using hi)]
    exact Nat.le_of_not_lt hi
def smI (j : Int) : Bool := ck (-(2 ^ 62) ≤ j ∧ j < 2 ^ 62)
def rg1 (m : Ax) : Ix := fun env st => (m env st).bind fun ws s => match ws with
  | [.int j] => if smI j = true then .ok (.st (rngL 0 j.toNat)) s else .no
  | _ => .no
theorem smI_ok {j : Int} (h : smI j = true) : -(2 ^ 62) ≤ j ∧ j < 2 ^ 62 := by
  unfold smI at h
  rw [ck_iff] at h
  exact h
theorem mi_range1 {tg : Expr} {p pos : Pos} (hg : Gl X "range") (hm : X.mg "range" = none) (ha : MA' X C E [a] mr) (hs : starEach [a] X.env = [(false, eval a X.env)] := by rfl) : MI X C E tg (.Call (.Name "range" p) [a] [] pos) (rg1 mr) := by
  refine PI.imp (pi_range1 hg hm ha.pa hs) fun σ H R ⟨ρ, st, env, re, S, p⟩ => ⟨ρ, st, env, re, S, Post.bind p fun ws s1 H1 ρ1 vs hw e1 S1 r1 p1 => ?_⟩
  split at p1
  · split at p1
    · rename_i h
      obtain ⟨v, rfl, r⟩ := r1.one
      cases r
      obtain ⟨h1, h2⟩ := smI_ok h
      exact ⟨_, rfl, h1, h2, p1 H1 ρ1 _ (Evo.refl ..) S1 itr_rel⟩
    · exact p1.elim
  · exact p1.elim
def rg2 (m : Ax) : Ix := fun env st => (m env st).bind fun ws s => match ws with
  | [.int i, .int j] => if smI i = true ∧ smI j = true then .ok (.st (rngL i (j - i).toNat)) s else .no
  | _ => .no
theorem mi_range2 {tg : Expr} {p pos : Pos} (hg : Gl X "range") (hm : X.mg "range" = none) (ha : MA' X C E [a, b] mr) (hs : starEach [a, b] X.env = [(false, eval a X.env), (false, eval b X.env)] := by rfl) (hs2 : starEach [b] X.env = [(false, eval b X.env)] := by rfl) : MI X C E tg (.Call (.Name "range" p) [a, b] [] pos) (rg2 mr) := by
  refine PI.imp (pi_range2 hg hm ha.pa hs hs2) fun σ H R ⟨ρ, st, env, re, S, p⟩ => ⟨ρ, st, env, re, S, Post.bind p fun ws s1 H1 ρ1 vs hw e1 S1 r1 p1 => ?_⟩
  split at p1
  · split at p1
    · rename_i h
      obtain ⟨v, u, rfl, r, q⟩ := r1.two
      cases r; cases q
      obtain ⟨h1, h2⟩ := smI_ok h.1
      obtain ⟨h3, h4⟩ := smI_ok h.2
      exact ⟨_, _, rfl, ⟨h1, h2, h3, h4⟩, p1 H1 ρ1 _ (Evo.refl ..) S1 itr_rel⟩
    · exact p1.elim
  · exact p1.elim

/-! ### for -/
def forL (g : W → En → Sto → R En) (b : Sx) : List W → Sx
  | [] => fun env st => .nx env st
  | w :: ws => fun env st => (g w env st).toS fun env1 st1 => lpS b (forL g b ws) env1 st1
def forF (f : Nat → Sto → Option (Option W)) (g : W → En → Sto → R En) (b : Sx) : Nat → Nat → Sx
  | 0, _ => fun _ _ => .no
  | n + 1, i => fun env st => match f i st with
    | some (some w) => (g w env st).toS fun env1 st1 => lpS b (forF f g b n (i + 1)) env1 st1
    | some none => .nx env st
    | none => .no
def forS (m : Ix) (g : W → En → Sto → R En) (b : Sx) : Sx := fun env st => (m env st).toS fun src s1 => match src with
  | .st ws => forL g b ws env s1
  | .dy n f => forF f g b n 0 env s1
theorem forL_F {g : W → En → Sto → R En} {b : Sx} {ws : List W} : ∀ (n i : Nat), ws.length < n + i → i ≤ ws.length → forL g b (ws.drop i) = forF (fun i _ => some ws[i]?) g b n i := by
  intro n
  induction n with
  | zero => intro i h1 h2; omega
  | succ n ih =>
    intro i h1 h2
    funext env st
    by_cases hi : i < ws.length
    · rw [List.drop_eq_getElem_cons hi]
      have e : ws[i]? = some ws[i] := by simp [hi]
      show (g ws[i] env st).toS (fun env1 st1 => lpS b (forL g b (ws.drop (i + 1))) env1 st1) = (match some ws[i]? with
        | some (some w) => (g w env st).toS fun env1 st1 => lpS b (forF (fun i _ => some ws[i]?) g b n (i + 1)) env1 st1
        | some none => .nx env st
        | none => .no)
      rw [e, ih (i + 1) (by omega) (by omega)]
    · have e : ws[i]? = none := List.getElem?_eq_none_iff.mpr (by omega)
      have ed : ws.drop i = [] := List.drop_eq_nil_of_le (by omega)
      rw [ed]
      show SR.nx env st = (match some ws[i]? with
        | some (some w) => (g w env st).toS fun env1 st1 => lpS b (forF (fun i _ => some ws[i]?) g b n (i + 1)) env1 st1
        | some none => .nx env st
        | none => .no)
      rw [e]
theorem ms_for {tg iter : Expr} {body : List Stmt} {mi : Ix} {g : W → En → Sto → R En} {mb : Sx} (hp : PassesOwn (model X.prog X.w) X.A X.env X.xe) (hc : X.calm = true) (hi : MI X C E tg iter mi) (hg : MG X C E tg g) (hb : MSs X C E body mb) (hs : ∀ x, foldedSetIterable iter X.env x = pure x := by intro _; rfl) :
    MS X C E (.For tg iter body [] pos) (forS mi g mb) := by
  refine PS.imp (ps_for hp hc hi hg hb (hs := hs)) fun D σ H ⟨ρ, st, env, re, S, p⟩ => ⟨ρ, st, env, re, S, PostS.bind (rel := relSrc C) p fun src s1 H1 ρ1 J hj e1 S1 r1 p1 => ?_⟩
  have p1' : PostS C E H1 ρ1 s1 (forF src.at g mb src.n 0 env s1) D := by
    cases src with
    | st ws =>
      have e := forL_F (g := g) (b := mb) (ws := ws) (ws.length + 1) 0 (by omega) (by omega)
      rw [List.drop_zero] at e
      show PostS C E H1 ρ1 s1 (forF (fun i _ => some ws[i]?) g mb (ws.length + 1) 0 env s1) D
      rw [← e]
      exact p1
    | dy n f => exact p1
  refine ⟨fun i m σ H => ∃ ρ st env, RelE C.K H ρ st σ env ∧ RelS C H ρ st ∧ ItRel C J H ρ st src ∧ PostS C E H ρ st (forF src.at g mb m i env st) D, ⟨src.n, ρ1, s1, env, re.evo e1 S.liv, S1, r1, p1'⟩, ?_⟩
  rintro i m σ H ⟨ρ, st, env, re, S, rj, p⟩
  cases m with
  | zero => exact p.elim
  | succ n =>
    unfold forF at p
    cases e : src.at i st with
    | none => rw [e] at p; exact p.elim
    | some o =>
      have q := rj H ρ st (Evo.refl ..) S i o e
      rw [e] at p
      cases o with
      | none => exact .inl ⟨q, p H ρ σ (Evo.refl ..) S re⟩
      | some w =>
        refine .inr ⟨q.1, fun σ' H' => ∃ ρ st env, RelE C.K H' ρ st σ' env ∧ RelS C H' ρ st ∧ ItRel C J H' ρ st src ∧ PostS C E H' ρ st (forF src.at g mb n (i + 1) env st) D, fun σ' H' q => ⟨n, Nat.lt_succ_self n, q⟩, fun x H' hy => ?_⟩
        obtain ⟨ev, S', rx⟩ := q.2 x H' hy
        refine ⟨ρ, st, env, w, re.evo ev S.liv, S', rx, PostS.bind (PostS.shift p ev) fun env1 s2 H2 ρ2 σ2 hw e2 S2 re2 p2 => ?_⟩
        have rj2 := (rj.evo ev).evo e2
        have base : Evo H2 ρ2 s2 H2 ρ2 s2 := Evo.refl ..
        refine ⟨ρ2, s2, env1, re2, S2, ?_⟩
        unfold lpS at p2
        cases h : mb env1 s2 with
        | nx env' st' => rw [h] at p2; exact fun H' ρ' σ' e' S' re' => ⟨ρ', st', env', re', S', rj2.evo e', PostS.shift p2 e'⟩
        | ct env' st' => rw [h] at p2; exact fun H' ρ' σ' e' S' re' => ⟨ρ', st', env', re', S', rj2.evo e', PostS.shift p2 e'⟩
        | bk env' st' => rw [h] at p2; exact p2
        | rt w st' => rw [h] at p2; exact p2
        | ex c' st' => rw [h] at p2; exact p2
        | no => rw [h] at p2; exact p2
end
end ML

/-! ML6: comprehensions, enumerate, zip, defs -/
namespace ML
open PySem L2
noncomputable section
section
variable {α β γ δ : Type} {rel : Hp → Pl → Sto → β → α → Prop} {rel' : Hp → Pl → Sto → δ → γ → Prop} {C : MC} {E : XK} {H Hc : Hp} {ρ ρc : Pl} {st stc : Sto} {r : R α} {Q : β → Hp → Prop}
/-- a result at a later state, what follows still said of the first one -/
theorem Post.bindAt {f : α → Sto → R γ} {Q' : δ → Hp → Prop} (h : Post rel' C E H ρ st (r.bind f) Q') (ev : Evo H ρ st Hc ρc stc)
    (k : ∀ (w : α) (st1 : Sto) (H1 : Hp) (ρ1 : Pl) (v : β), r = .ok w st1 → Evo Hc ρc stc H1 ρ1 st1 → RelS C H1 ρ1 st1 → rel H1 ρ1 st1 v w → Post rel' C E H ρ st (f w st1) Q' → Q v H1) : Post rel C E Hc ρc stc r Q := by
  cases r with
  | ok w st' => exact fun H' ρ' v e s q => k w st' H' ρ' v rfl e s q h
  | ex c st' => exact fun H' ρ' a e s q => h H' ρ' a (ev.trans e) s q
  | no => exact h
end
section
variable {X : Cx} {C : MC} {E : XK} {a b c e o value : Expr} {ma mb mc mo mv : Ex} {pos pos' tpos : Pos} {es : List Expr} {mr : Ax}

/-! ### targets of a comprehension: names -/
/-- how a target sets slots, in both worlds -/
structure CT (K : PySem.W.Frag) (vs : List Nat) (g : TG) (f : W → En → Option En) : Prop where
  ok : ∀ (H : Hp) (ρ : Pl) (st : Sto) (σ : St) (env env1 : En) (v : V) (w : W) (Q : St → Hp → Prop), RelE K H ρ st σ env → Rep K H ρ st v w → f w env = some env1 →
    (∀ σ1, RelE K H ρ st σ1 env1 → wipe σ1 vs = wipe σ vs → Q σ1 H) → g v σ H Q
def ct1 (i : Nat) : W → En → Option En := fun w env => some (env.set i (some w))
theorem wipe_set {σ : St} {i : Nat} {o : Option V} : ∀ {vs : List Nat}, i ∈ vs → wipe (σ.set i o) vs = wipe σ vs
  | v :: vs, h => by
    unfold wipe
    by_cases e : i ∈ vs
    · rw [wipe_set e]
    · have hv : i = v := (List.mem_cons.mp h).resolve_right e
      subst hv
      have key : ∀ us : List Nat, i ∉ us → ∀ τ : St, wipe (τ.set i o) us = (wipe τ us).set i o := by
        intro us
        induction us with
        | nil => intro _ τ; rfl
        | cons u us ih =>
          intro hn τ
          unfold wipe
          have ne : i ≠ u := fun z => hn (by rw [z]; exact List.mem_cons_self)
          rw [ih (fun z => hn (List.mem_cons_of_mem _ z)), List.set_comm _ _ ne]
      rw [key vs e, List.set_set]
theorem ct_name {K : PySem.W.Frag} {vs : List Nat} {i : Nat} (h : i ∈ vs) : CT K vs (gName i) (ct1 i) :=
  ⟨fun H ρ st σ env env1 v w Q re r e k => by cases e; exact k _ (re.set r i) (wipe_set h)⟩
def ct2 (i j : Nat) : W → En → Option En := fun w env => match w with
  | .tup [x, y] => some ((env.set i (some x)).set j (some y))
  | _ => none
theorem ct_pair {K : PySem.W.Frag} {vs : List Nat} {i j : Nat} (hi : i ∈ vs) (hj : j ∈ vs) : CT K vs (gTup K 2 (gCons (gName i) (gCons (gName j) gNil))) (ct2 i j) :=
  ⟨fun H ρ st σ env env1 v w Q re r e k => by
    unfold ct2 at e
    split at e
    · cases e
      cases r with
      | tup q r =>
        obtain ⟨v1, v2, rfl, r1, r2⟩ := r.two
        exact ⟨_, _, rfl, q, rfl, v1, [v2], rfl, v2, [], rfl, rfl, k _ ((re.set r1 i).set r2 j) (by rw [wipe_set hj, wipe_set hi])⟩
    · cases e⟩
/-! ### [e for .. in .. if ..] -/
def wipeE (env : En) : List Nat → En
  | [] => env
  | v :: vs => (wipeE env vs).set v none
def lcF (f : Nat → Sto → Option (Option W)) (g : W → En → Option En) (t : Bx) (e : Ex) (env : En) : Nat → Nat → List W → Sto → R (List W)
  | 0, _, _, _ => .no
  | n + 1, i, acc, st => match f i st with
    | some (some w) => match g w env with
      | some env1 => (t env1 st).bind fun k s1 => if k = true then (e env1 s1).bind fun y s2 => if ck (acc.length < 10000000) = true then lcF f g t e env n (i + 1) (acc ++ [y]) s2 else .no else lcF f g t e env n (i + 1) acc s1
      | none => .no
    | some none => .ok acc st
    | none => .no
/-- over known items: what is made, front to back -/
def lcL (g : W → En → Option En) (t : Bx) (e : Ex) (env : En) : List W → Sto → R (List W)
  | [], st => .ok [] st
  | w :: ws, st => match g w env with
    | some env1 => (t env1 st).bind fun k s1 => if k = true then (e env1 s1).bind fun y s2 => (lcL g t e env ws s2).bind fun ys s3 => .ok (y :: ys) s3 else lcL g t e env ws s1
    | none => .no
def lcS (vs : List Nat) (m : Ix) (g : W → En → Option En) (t : Bx) (e : Ex) : Ax := fun env st => (m env st).bind fun src s1 => match src with
  | .st ws => if ck (ws.length < 10000000) = true then lcL g t e (wipeE env vs) ws s1 else .no
  | .dy n f => lcF f g t e (wipeE env vs) n 0 [] s1
def yesB : Bx := fun _ st => .ok true st
theorem wipeE_get {env : En} {i : Nat} {w : W} : ∀ {vs : List Nat}, (wipeE env vs)[i]? = some (some w) → env[i]? = some (some w) ∧ i ∉ vs
  | [], h => ⟨h, by simp⟩
  | v :: vs, h => by
    unfold wipeE at h
    by_cases z : v = i
    · subst z
      rw [List.getElem?_set] at h
      simp only [if_true] at h
      split at h <;> cases h
    · rw [List.getElem?_set_ne z] at h
      obtain ⟨h1, h2⟩ := wipeE_get h
      exact ⟨h1, fun hm => by rcases List.mem_cons.mp hm with q | q; exact z q.symm; exact h2 q⟩
theorem wipe_wipe (σ : St) (vs : List Nat) : wipe (wipe σ vs) vs = wipe σ vs := by
  apply List.ext_getElem?
  intro i
  by_cases h : i ∈ vs
  · have key : ∀ (us : List Nat) (τ : St), i ∈ us → (wipe τ us)[i]? = if i < τ.length then some none else none := by
      intro us
      induction us with
      | nil => intro τ hm; cases hm
      | cons u us ih =>
        intro τ hm
        unfold wipe
        by_cases z : u = i
        · rw [z, List.getElem?_set]
          simp only [if_true, wipe_length]
        · rw [List.getElem?_set_ne z]
          exact ih τ ((List.mem_cons.mp hm).resolve_left fun q => z q.symm)
    rw [key vs _ h, key vs _ h, wipe_length]
  · have key : ∀ (us : List Nat) (τ : St), i ∉ us → (wipe τ us)[i]? = τ[i]? := by
      intro us
      induction us with
      | nil => intro τ _; rfl
      | cons u us ih =>
        intro τ hm
        unfold wipe
        rw [List.getElem?_set_ne (fun z => hm (by rw [z]; exact List.mem_cons_self))]
        exact ih τ fun z => hm (List.mem_cons_of_mem _ z)
    rw [key vs _ h]
theorem wipeE_length {env : En} : ∀ {vs : List Nat}, (wipeE env vs).length = env.length
  | [] => rfl
  | v :: vs => by unfold wipeE; rw [List.length_set, wipeE_length]
theorem wipe_get {σ : St} {i : Nat} : ∀ {vs : List Nat}, i ∉ vs → (wipe σ vs)[i]? = σ[i]?
  | [], _ => rfl
  | v :: vs, h => by
    unfold wipe
    have ne : v ≠ i := fun z => h (by rw [z]; exact List.mem_cons_self)
    rw [List.getElem?_set_ne ne]
    exact wipe_get fun z => h (List.mem_cons_of_mem _ z)
theorem RelE.wipe {K : PySem.W.Frag} {H : Hp} {ρ : Pl} {st : Sto} {σ : St} {env : En} (h : RelE K H ρ st σ env) (vs : List Nat) : RelE K H ρ st (L2.wipe σ vs) (wipeE env vs) :=
  ⟨by rw [wipeE_length, wipe_length]; exact h.1, fun i w e => by
    obtain ⟨h1, h2⟩ := wipeE_get e
    obtain ⟨v, q, r⟩ := h.2 i w h1
    exact ⟨v, by rw [wipe_get h2]; exact q, r⟩⟩
theorem R.bind_assoc {α β γ : Type} (r : R α) (f : α → Sto → R β) (g : β → Sto → R γ) : (r.bind f).bind g = r.bind fun a s => (f a s).bind g := by cases r <;> rfl
theorem lcL_F {g : W → En → Option En} {t : Bx} {e : Ex} {env : En} {ws : List W} : ∀ (n i : Nat) (acc : List W) (st : Sto), ws.length < n + i → i ≤ ws.length → acc.length ≤ i → ws.length < 10000000 →
    lcF (fun i _ => some ws[i]?) g t e env n i acc st = (lcL g t e env (ws.drop i) st).bind fun ys s => .ok (acc ++ ys) s := by
  intro n
  induction n with
  | zero => intro i acc st h1 h2; omega
  | succ n ih =>
    intro i acc st h1 h2 h3 h4
    by_cases hi : i < ws.length
    · rw [List.drop_eq_getElem_cons hi]
      have e1 : ws[i]? = some ws[i] := by simp [hi]
      unfold lcF lcL
      simp only [e1]
      cases hg : g ws[i] env with
      | none => rfl
      | some env1 =>
        simp only
        rw [R.bind_assoc]
        congr 1
        funext k s1
        cases k with
        | false =>
          simp only [Bool.false_eq_true, if_false]
          exact ih (i + 1) acc s1 (by omega) (by omega) (by omega) h4
        | true =>
          simp only [if_true]
          rw [R.bind_assoc]
          congr 1
          funext y s2
          rw [if_pos (ck_iff.mpr (by omega)), ih (i + 1) (acc ++ [y]) s2 (by omega) (by omega) (by simp; omega) h4, R.bind_assoc]
          congr 1
          funext ys s3
          simp
    · have e1 : ws[i]? = none := List.getElem?_eq_none_iff.mpr (by omega)
      have ed : ws.drop i = [] := List.drop_eq_nil_of_le (by omega)
      rw [ed]
      unfold lcF lcL
      simp only [e1]
      simp
/-- the list made is never changed any more -/
def lcE (vs : List Nat) (m : Ix) (g : W → En → Option En) (t : Bx) (e : Ex) : Ex := fun env st => (lcS vs m g t e env st).bind fun ws s => .ok (.fl ws) s
/-- the list made has a place -/
def lcPF (f : Nat → Sto → Option (Option W)) (g : W → En → Option En) (t : Bx) (e : Ex) (env : En) (l : Nat) : Nat → Nat → Sto → R W
  | 0, _, _ => .no
  | n + 1, i, st => match f i st with
    | some (some w) => match g w env with
      | some env1 => (t env1 st).bind fun k s1 => if k = true then (e env1 s1).bind fun y s2 => match s2[l]? with
        | some (.lst acc) => if ck (acc.length < 10000000) = true then lcPF f g t e env l n (i + 1) (s2.set l (.lst (acc ++ [y]))) else .no
        | _ => .no else lcPF f g t e env l n (i + 1) s1
      | none => .no
    | some none => .ok (.loc l) st
    | none => .no
def lcP (vs : List Nat) (m : Ix) (g : W → En → Option En) (t : Bx) (e : Ex) : Ex := fun env st => (m env st).bind fun src s1 => lcPF src.at g t e (wipeE env vs) s1.length src.n 0 (s1 ++ [.lst []])
variable {mi : Ix} {gV : TG} {g : W → En → Option En} {kt : Bx} {own : List Nat}
theorem tLc_of (ct : CT C.K own gV g) {σ : St} {H : Hp} {Q : VK} (h : tM C E (lcE own mi g kt ma) σ H Q) : tLc (tMI C E mi) gV (tMB C E kt) (tM C E ma) own σ H Q := by
  obtain ⟨ρ, st, env, re, S, p⟩ := h
  unfold lcE lcS at p
  rw [R.bind_assoc] at p
  refine ⟨ρ, st, env, re, S, Post.bind (rel := relSrc C) p fun src s1 H1 ρ1 J hj e1 S1 rj p1 => fun D hD => ?_⟩
  have re1 := (re.evo e1 S.liv).wipe own
  have p2 : Post (relW C) C E H1 ρ1 s1 ((lcF src.at g kt ma (wipeE env own) src.n 0 [] s1).bind fun ws s => .ok (.fl ws) s) Q := by
    cases src with
    | st ws =>
      simp only at p1
      split at p1
      · rename_i hl
        have hl := ck_iff.mp hl
        have q := lcL_F (g := g) (t := kt) (e := ma) (env := wipeE env own) (ws := ws) (ws.length + 1) 0 [] s1 (by omega) (by omega) (by simp) hl
        rw [List.drop_zero] at q
        show Post (relW C) C E H1 ρ1 s1 ((lcF (fun i _ => some ws[i]?) g kt ma (wipeE env own) (ws.length + 1) 0 [] s1).bind fun ws s => .ok (.fl ws) s) Q
        rw [q, R.bind_assoc]
        simpa using p1
      · exact p1.elim
    | dy n f => exact p1
  have e0 : Evo H1 ρ1 s1 (upd H1 D (.lst [])) (ρ1.hide D) s1 := Evo.hide hD
  refine ⟨fun i m H' => ∃ ρ' st' acc vacc, Evo H1 ρ1 s1 H' ρ' st' ∧ RelS C H' ρ' st' ∧ RelE C.K H' ρ' st' (wipe σ own) (wipeE env own) ∧ H' D = some (.lst vacc) ∧ D ∈ ρ'.hd ∧ RepL C.K H' ρ' st' vacc acc ∧
      Post (relW C) C E H1 ρ1 s1 ((lcF src.at g kt ma (wipeE env own) m i acc st').bind fun ws s => .ok (.fl ws) s) Q,
    ⟨src.n, ρ1.hide D, s1, [], [], e0, S1.hide hD trivial, re1.evo e0 S1.liv, upd_same, List.mem_cons_self, .nil, p2⟩, ?_⟩
  rintro i m H' ⟨ρ', st', acc, vacc, ev, S', re', hD', hm', ra, pp⟩
  cases m with
  | zero => exact pp.elim
  | succ n =>
    unfold lcF at pp
    cases ei : src.at i st' with
    | none => rw [ei] at pp; exact pp.elim
    | some o =>
      have q := rj H' ρ' st' ev S' i o ei
      rw [ei] at pp
      cases o with
      | none =>
        refine .inl ⟨q, pp H' (ρ'.show D) _ ⟨ev.pre, ev.dd, ev.keep, ev.new, ev.dom, fun a h => ev.newh a (show_sub h), fun a h => show_mem (ev.oldh a h) fun z => ?_⟩ S'.shown (.fl hD' ⟨fun l q => absurd q ((S'.hid D hm').2 l), show_not⟩ ra.shown)⟩
        obtain ⟨⟨u, e, _⟩, _⟩ := S1.hid a h
        rw [z, hD] at e; cases e
      | some w =>
        simp only at pp
        cases eg : g w (wipeE env own) with
        | none => rw [eg] at pp; exact pp.elim
        | some env1 =>
          rw [eg] at pp
          simp only [R.bind_assoc] at pp
          refine .inr ⟨q.1, fun H' => ∃ ρ' st' acc vacc, Evo H1 ρ1 s1 H' ρ' st' ∧ RelS C H' ρ' st' ∧ RelE C.K H' ρ' st' (wipe σ own) (wipeE env own) ∧ H' D = some (.lst vacc) ∧ D ∈ ρ'.hd ∧ RepL C.K H' ρ' st' vacc acc ∧
            Post (relW C) C E H1 ρ1 s1 ((lcF src.at g kt ma (wipeE env own) n (i + 1) acc st').bind fun ws s => .ok (.fl ws) s) Q, fun H' q => ⟨n, Nat.lt_succ_self n, q⟩, fun x H2 hy => ?_⟩
          obtain ⟨ev2, S2, rx⟩ := q.2 x H2 hy
          have on : ∀ {H3 ρ3 s3}, Evo H' ρ' st' H3 ρ3 s3 → Evo H1 ρ1 s1 H3 ρ3 s3 ∧ RelE C.K H3 ρ3 s3 (wipe σ own) (wipeE env own) ∧ H3 D = some (.lst vacc) ∧ D ∈ ρ3.hd ∧ RepL C.K H3 ρ3 s3 vacc acc := fun {H3 ρ3 s3} e3 =>
            ⟨ev.trans e3, re'.evo e3 S'.liv, e3.keep D _ hD' (fun l q => absurd q ((S'.hid D hm').2 l)), e3.oldh D hm', ra.evo e3 S'.liv⟩
          refine ct.ok H2 ρ' st' (wipe σ own) (wipeE env own) env1 x w _ (re'.evo ev2 S'.liv) rx eg fun σ1 re3 hw => ⟨hw.trans (wipe_wipe σ own), ?_⟩
          refine ⟨ρ', st', env1, re3, S2, Post.bindAt (rel := relB) pp (ev.trans ev2) fun k s3 H3 ρ3 kv hk e3 S3 rk p3 => ?_⟩
          have rk : kv = k := rk
          subst rk
          cases kv with
          | false =>
            refine (if_neg (by decide)).mpr ?_
            obtain ⟨a1, a2, a4, a5, a6⟩ := on (ev2.trans e3)
            exact ⟨ρ3, s3, acc, vacc, a1, S3, a2, a4, a5, a6, p3⟩
          | true =>
            refine (if_pos rfl).mpr ?_
            simp only [if_true, R.bind_assoc] at p3
            refine ⟨ρ3, s3, env1, re3.evo e3 S2.liv, S3, Post.bindAt (rel := relW C) p3 ((ev.trans ev2).trans e3) fun y s4 H4 ρ4 vy hy4 e4 S4 ry p4 => ?_⟩
            obtain ⟨a1, a2, a4, a5, a6⟩ := on ((ev2.trans e3).trans e4)
            split at p4
            · rename_i hl
              have hm : ∃ u, H4 D = some u ∧ isMutO u := ⟨_, a4, trivial⟩
              refine ⟨vacc, a4, by rw [a6.length]; exact Nat.lt_of_lt_of_le (ck_iff.mp hl) (by decide), ?_⟩
              refine ⟨ρ4, s4, acc ++ [y], vacc ++ [vy], ?_, S4.hidw a5 trivial, ?_, upd_same, a5, (a6.hidw a5 hm).append (.cons (ry.hidw a5 hm) .nil), p4⟩
              · have neD : ∀ b o, H1 b = some o → b ≠ D := fun b o hb z => by rw [z, hD] at hb; cases hb
                exact ⟨a1.pre, a1.dd, fun b o hb nl => by rw [upd_ne (neD b o hb)]; exact a1.keep b o hb nl, a1.new, fun b hb => by
                  by_cases z : b = D
                  · rw [z]; exact hD
                  · rw [upd_ne z] at hb; exact a1.dom b hb, a1.newh, a1.oldh⟩
              · exact ⟨a2.1, fun i w e => let ⟨v, q, r⟩ := a2.2 i w e; ⟨v, q, r.hidw a5 hm⟩⟩
            · exact p4.elim
variable {elt tg iter : Expr} {ifs : List Expr} {scope : Scope} {ownP : List (Str × Nat)}
/-- a comprehension, its list never changed -/
theorem me_lc {mt : Ex} (ct : CT C.K (ownP.map (·.2)) gV g) (hc : X.calm = true) (hN : X.N.Nodup) (hi : MI X C E tg iter mi) (ok : BlkOk X.N X.env.scope scope ownP)
    (hg : ∀ (s : Shared) (H : Hp) (C : Addr) (cl : List (Str × Addr)) (fp : List Addr), PG (X.blk s H scope (compEnvC scope cl C X.env) fp) tg gV) (ht : ∀ (s : Shared) (H : Hp) (Cc : Addr) (cl : List (Str × Addr)) (fp : List Addr), PTs (X.blk s H scope (compEnvC scope cl Cc X.env) fp) ifs (tMB C E kt))
    (he : ∀ (s : Shared) (H : Hp) (Cc : Addr) (cl : List (Str × Addr)) (fp : List Addr), ME (X.blk s H scope (compEnvC scope cl Cc X.env) fp) C E elt mt) (hs : ∀ x, foldedSetIterable iter X.env x = pure x := by intro _; rfl) :
    ME X C E (.ListComp elt [⟨tg, iter, ifs, 0⟩] scope pos) (lcE (ownP.map (·.2)) mi g kt mt) :=
  PE.imp (pe_lc hc hN hi ok hg ht he hs) fun _ _ _ h => tLc_of ct h
/-- name = [..] -/
theorem ms_setLc {mt : Ex} {i : Nat} {y : Str} {py spos : Pos} (ct : CT C.K (ownP.map (·.2)) gV g) (hc : X.calm = true) (hN : X.N.Nodup) (hy : X.N[i]? = some y) (hyl : X.env.scope.names.lookup y = some .local)
    (hsw : swapsWith (.ListComp elt [⟨tg, iter, ifs, 0⟩] scope pos) (some (.Name y py)) spos.line X.env = pure true) (hi : MI X C E tg iter mi) (ok : BlkOk X.N X.env.scope scope ownP)
    (hg : ∀ (s : Shared) (H : Hp) (C : Addr) (cl : List (Str × Addr)) (fp : List Addr), PG (X.blk s H scope (compEnvC scope cl C X.env) fp) tg gV) (ht : ∀ (s : Shared) (H : Hp) (Cc : Addr) (cl : List (Str × Addr)) (fp : List Addr), PTs (X.blk s H scope (compEnvC scope cl Cc X.env) fp) ifs (tMB C E kt))
    (he : ∀ (s : Shared) (H : Hp) (Cc : Addr) (cl : List (Str × Addr)) (fp : List Addr), ME (X.blk s H scope (compEnvC scope cl Cc X.env) fp) C E elt mt) (hs : ∀ x, foldedSetIterable iter X.env x = pure x := by intro _; rfl) :
    MS X C E (.Assign [.Name y py] (.ListComp elt [⟨tg, iter, ifs, 0⟩] scope pos) spos) (setS i (lcE (ownP.map (·.2)) mi g kt mt)) := by
  refine PS.imp (ps_setLc hc hN hy hyl hsw hi ok hg ht he hs) fun D σ H ⟨ρ, st, env, re, S, p⟩ => tLc_of ct ⟨ρ, st, env, re, S, PostS.bind (rel := relW C) p fun w s1 H1 ρ1 v hw e1 S1 r1 p1 => ?_⟩
  exact p1 H1 ρ1 _ (Evo.refl ..) S1 ((re.evo e1 S.liv).set r1 i)
theorem mts_nil {X' : Cx} : PTs X' [] (tMB C E yesB) := ⟨fun pins s σ H Q I ⟨ρ, st, env, re, S, p⟩ => pts_nil.run pins s σ H Q I (p H ρ true (Evo.refl ..) S rfl)⟩
theorem mts_one {X' : Cx} (h : MT X' C E c kt) : PTs X' [c] (tMB C E kt) := pts_one h
end

/-! ### defs -/
def pad (N : Nat) (ws : List W) : En := ws.map some ++ List.replicate (N - ws.length) none
def fin (r : SR) : R W := match r with
  | .nx _ s => .ok .non s
  | .rt w s => .ok w s
  | .ex c s => .ex c s
  | _ => .no
@[simp] theorem fin_nx (e : En) (s : Sto) : fin (.nx e s) = .ok .non s := rfl
@[simp] theorem fin_rt (w : W) (s : Sto) : fin (.rt w s) = .ok w s := rfl
@[simp] theorem fin_ex (c : Nat) (s : Sto) : fin (.ex c s) = .ex c s := rfl
@[simp] theorem fin_no : fin .no = .no := rfl
@[simp] theorem fin_ite (c : Prop) [Decidable c] (a b : SR) : fin (if c then a else b) = if c then fin a else fin b := by split <;> rfl
def bodyD (N : Nat) (m : Sx) : List W → Sto → R W := fun ws st => fin (m (pad N ws) st)
theorem RelE.start {K : PySem.W.Frag} {H : Hp} {ρ : Pl} {st : Sto} {vs : List V} {ws : List W} {N : List Str} (r : RepL K H ρ st vs ws) : RelE K H ρ st (L2.start N vs) (pad N.length ws) := by
  unfold L2.start pad
  rw [r.length]
  refine ⟨by simp [r.length], fun i w e => ?_⟩
  by_cases hi : i < ws.length
  · rw [List.getElem?_append_left (by simpa using hi), List.getElem?_map] at e
    cases q : ws[i]? with
    | none => rw [q] at e; cases e
    | some w' =>
      rw [q] at e; cases e
      obtain ⟨v, h1, h2⟩ := r.get q
      exact ⟨v, by rw [List.getElem?_append_left (by simpa [r.length] using hi), List.getElem?_map, h1]; rfl, h2⟩
  · rw [List.getElem?_append_right (by simpa using Nat.le_of_not_lt hi), List.getElem?_replicate] at e
    split at e <;> cases e
theorem fn_ok {P : Program} {w : World} {K : PySem.W.Frag} {mg : Str → Option Value} {base : Heap} {C : MC} {k n : Nat} {f : Addr} {x qual : Str} {s : Stmt} {fd : FuncData} {N ps : List Str} {m : Sx} (F : Fun K x qual s f fd) (S : FnScope N ps (defScope s)) (hK : C.K = K) (hn : ps.length = n)
    (body : ∀ (cdv : Value) (A : Around) (outer : List Env) (sh : Shared) (H : Hp) (E : XK), Room k (A.deeper (PyProof.Rows.envOfC qual (defScope s) sh.heap.objs.size f cdv)) → MSs (cxOf CX0 P w K mg base N qual (defScope s) f cdv A outer sh H E).nox C E0 (defBody s) m) :
    FnOk P w K mg base CX0 (k + 1) f fd ps (sp0 C n (bodyD N.length m)) := by
  refine F.ok S (fun vs H Q E h => by rw [hn]; exact h.1) fun cdv A outer sh H vs Q E hr ⟨hl, ρ, st, ws, r, S, p⟩ => ⟨tMS C E0 m, body cdv A outer sh H E hr, ρ, st, pad N.length ws, .start r, S, ?_⟩
  unfold bodyD at p
  cases h : m (pad N.length ws) st with
  | nx e s => rw [h] at p; exact fun H' ρ' σ' e' S' _ => p H' ρ' .non e' S' .non
  | rt w s => rw [h] at p; exact p
  | ex c s => rw [h] at p; exact p
  | bk e s => rw [h] at p; exact p.elim
  | ct e s => rw [h] at p; exact p.elim
  | no => rw [h] at p; exact p.elim
end
end ML

/-! ML7: what a def is worth to its callers; the law -/
namespace ML
open PySem L2
noncomputable section
mutual
/-- the places in w are below n -/
def W.wf (n : Nat) : W → Bool
  | .loc l => decide (l < n)
  | .tup ws => wfL n ws
  | .fl ws => wfL n ws
  | .kl ws => wfL n ws
  | _ => true
def wfL (n : Nat) : List W → Bool
  | [] => true
  | w :: ws => w.wf n && wfL n ws
end
def wfK (n : Nat) : List (Key × W) → Bool
  | [] => true
  | p :: ps => p.2.wf n && wfK n ps
def wfF (n : Nat) : List (Option W) → Bool
  | [] => true
  | none :: ps => wfF n ps
  | some w :: ps => w.wf n && wfF n ps
def O.wf (n : Nat) : O → Bool
  | .dead => true
  | .lst ws => wfL n ws
  | .ins _ fs => wfF n fs
  | .dct kvs => wfK n kvs
theorem wfF_at {n : Nat} : ∀ {fs : List (Option W)} {i : Nat} {w : W}, wfF n fs = true → fs[i]? = some (some w) → w.wf n = true
  | [], _, _, _, h => by simp at h
  | none :: fs, 0, w, _, h => by simp at h
  | none :: fs, i + 1, w, q, h => wfF_at (fs := fs) q (by simpa using h)
  | some x :: fs, 0, w, q, h => by
    simp only [wfF, Bool.and_eq_true] at q
    simp at h
    rw [← h]; exact q.1
  | some x :: fs, i + 1, w, q, h => by
    simp only [wfF, Bool.and_eq_true] at q
    exact wfF_at (fs := fs) q.2 (by simpa using h)
theorem wfF_of {n : Nat} : ∀ {fs : List (Option W)}, (∀ (i : Nat) (w : W), fs[i]? = some (some w) → w.wf n = true) → wfF n fs = true
  | [], _ => rfl
  | none :: fs, h => wfF_of (fs := fs) fun i w q => h (i + 1) w (by simpa using q)
  | some x :: fs, h => by
    simp only [wfF, Bool.and_eq_true]
    exact ⟨h 0 x (by simp), wfF_of (fs := fs) fun i w q => h (i + 1) w (by simpa using q)⟩
section
variable {K : PySem.W.Frag} {C : MC} {H : Hp} {ρ : Pl} {st : Sto}
mutual
theorem Rep.wf : ∀ {v : V} {w : W}, Rep K H ρ st v w → w.wf ρ.pl.length = true
  | _, _, .non => by simp [W.wf]
  | _, _, .bl b => by simp [W.wf]
  | _, _, .int i => by simp [W.wf]
  | _, _, .str x => by simp [W.wf]
  | _, _, .raw v => by simp [W.wf]
  | _, _, .tup h r => by simp only [W.wf]; exact RepL.wf r
  | _, _, .fl h n r => by simp only [W.wf]; exact RepL.wf r
  | _, _, .kl h r => by simp only [W.wf]; exact RepL.wf r
  | _, _, .loc h => by simp only [W.wf]; exact decide_eq_true (List.getElem?_eq_some_iff.mp h).1
theorem RepL.wf : ∀ {vs : List V} {ws : List W}, RepL K H ρ st vs ws → wfL ρ.pl.length ws = true
  | _, _, .nil => by simp [wfL]
  | _, _, .cons h r => by simp only [wfL, Bool.and_eq_true]; exact ⟨Rep.wf h, RepL.wf r⟩
end
theorem RepK.wf : ∀ {kvs : List (Key × V)} {kws : List (Key × W)}, RepK K H ρ st kvs kws → wfK ρ.pl.length kws = true
  | [], [], _ => rfl
  | (k, v) :: kvs, (j, w) :: kws, h => by simp only [wfK, Bool.and_eq_true]; exact ⟨h.2.1.wf, RepK.wf h.2.2⟩
  | [], _ :: _, h => h.elim
  | _ :: _, [], h => h.elim
theorem RelS.wf (S : RelS C H ρ st) {l : Nat} {o : O} (h : st[l]? = some o) : o.wf st.length = true := by
  obtain ⟨a, q, r⟩ := S.addr h
  rw [← S.len]
  cases o with
  | dead => rfl
  | lst ws => obtain ⟨vs, _, r⟩ := r; exact r.wf
  | ins c fs =>
    obtain ⟨Cd, nm, dx, fvs, _, _, r1, r2, _⟩ := r
    refine wfF_of fun i w e => ?_
    have hi := (List.getElem?_eq_some_iff.mp e).1
    rw [r1] at hi
    obtain ⟨v, _, r⟩ := r2 i nm[i] w (by simp [hi]) e
    exact r.wf
  | dct kws => obtain ⟨vs, _, r⟩ := r; exact RepK.wf r
/-- the last places are given up, where nothing leans on them -/
structure Cut (ρ : Pl) (st : Sto) (n : Nat) (ρ1 : Pl) (s1 : Sto) : Prop where
  pl : ∀ l : Nat, l < n → ρ1.pl[l]? = ρ.pl[l]?
  st : ∀ l : Nat, l < n → s1[l]? = st[l]?
  lp : ρ1.pl.length = n
  ls : s1.length = n
  hd : ρ1.hd = ρ.hd
variable {n : Nat} {ρ1 : Pl} {s1 : Sto}
theorem NL.cut (c : Cut ρ st n ρ1 s1) {a : Addr} (h : NL ρ st a) : NL ρ1 s1 a :=
  ⟨fun l q => by
    have hl := (List.getElem?_eq_some_iff.mp q).1
    rw [c.lp] at hl
    rw [c.pl l hl] at q
    rw [c.st l hl]
    exact h.1 l q, by rw [c.hd]; exact h.2⟩
mutual
theorem Rep.cut (c : Cut ρ st n ρ1 s1) : ∀ {v : V} {w : W}, Rep K H ρ st v w → w.wf n = true → Rep K H ρ1 s1 v w
  | _, _, .non, _ => .non
  | _, _, .bl b, _ => .bl b
  | _, _, .int i, _ => .int i
  | _, _, .str x, _ => .str x
  | _, _, .raw v, _ => .raw v
  | _, _, .tup h r, q => .tup h (RepL.cut c r (by simpa [W.wf] using q))
  | _, _, .fl h n r, q => .fl h (n.cut c) (RepL.cut c r (by simpa [W.wf] using q))
  | _, _, .kl h r, q => .kl (by
      rcases h with ⟨h, n⟩ | h
      · exact .inl ⟨h, n.cut c⟩
      · exact .inr h) (RepL.cut c r (by simpa [W.wf] using q))
  | _, _, .loc h, q => .loc (by rw [c.pl _ (by simpa [W.wf] using q)]; exact h)
theorem RepL.cut (c : Cut ρ st n ρ1 s1) : ∀ {vs : List V} {ws : List W}, RepL K H ρ st vs ws → wfL n ws = true → RepL K H ρ1 s1 vs ws
  | _, _, .nil, _ => .nil
  | _, _, .cons h r, q => by
    simp only [wfL, Bool.and_eq_true] at q
    exact .cons (Rep.cut c h q.1) (RepL.cut c r q.2)
end
theorem RepK.cut (c : Cut ρ st n ρ1 s1) : ∀ {kvs : List (Key × V)} {kws : List (Key × W)}, RepK K H ρ st kvs kws → wfK n kws = true → RepK K H ρ1 s1 kvs kws
  | [], [], _, _ => trivial
  | (k, v) :: kvs, (j, w) :: kws, h, q => by
    simp only [wfK, Bool.and_eq_true] at q
    exact ⟨h.1, h.2.1.cut c q.1, RepK.cut c h.2.2 q.2⟩
  | [], _ :: _, h, _ => h.elim
  | _ :: _, [], h, _ => h.elim
theorem RelS.cut (S : RelS C H ρ st) (c : Cut ρ st n ρ1 s1) (hw : ∀ (l : Nat) (o : O), s1[l]? = some o → o.wf n = true) : RelS C H ρ1 s1 := by
  have at_ : ∀ {l : Nat} {a : Addr}, ρ1.pl[l]? = some a → l < n ∧ ρ.pl[l]? = some a := fun {l a} h => by
    have hl := (List.getElem?_eq_some_iff.mp h).1
    rw [c.lp] at hl
    exact ⟨hl, by rw [← c.pl l hl]; exact h⟩
  refine ⟨c.lp.trans c.ls.symm, fun l m a h1 h2 => S.inj l m a (at_ h1).2 (at_ h2).2, fun l a o h e => ?_, fun a h => ?_⟩
  · obtain ⟨hl, ha⟩ := at_ h
    have wo := hw l o e
    rw [c.st l hl] at e
    have q := S.obj l a o ha e
    cases o with
    | dead => exact q
    | lst ws => obtain ⟨vs, q, r⟩ := q; exact ⟨vs, q, r.cut c wo⟩
    | ins cc fs => obtain ⟨Cd, nm, dx, fvs, q1, q2, r1, r2, r3⟩ := q; exact ⟨Cd, nm, dx, fvs, q1, q2, r1, fun i f w a b => let ⟨v, e, r⟩ := r2 i f w a b; ⟨v, e, r.cut c (wfF_at wo b)⟩, r3⟩
    | dct kws => obtain ⟨kvs, q, r⟩ := q; exact ⟨kvs, q, RepK.cut c r wo⟩
  · rw [c.hd] at h
    obtain ⟨q1, q2⟩ := S.hid a h
    exact ⟨q1, fun l z => q2 l (at_ z).2⟩
end
/-- d' is what callers know of d: the same value, places that nothing leans on left out -/
def Gc (n : Nat) (d d' : List W → Sto → R W) : Prop := ∀ (ws : List W) (st : Sto), ws.length = n → wfL st.length ws = true → match d' ws st with
  | .ok w st' => ∃ s2, d ws st = .ok w (st' ++ s2) ∧ st.length ≤ st'.length ∧ (s2 = [] ∨ (w.wf st'.length = true ∧ ∀ (l : Nat) (o : O), st'[l]? = some o → st[l]? = some o ∨ o.wf st'.length = true))
  | .ex c s => d ws st = .ex c s
  | .no => True
theorem Gc.pure {n : Nat} {d d' : List W → Sto → R W} (h : ∀ ws st w st', ws.length = n → wfL st.length ws = true → d' ws st = .ok w st' → st' = st ∧ w.wf st.length = true ∧ ∃ s2, d ws st = .ok w (st ++ s2)) (hx : ∀ ws st c s, d' ws st ≠ .ex c s) : Gc n d d' := by
  intro ws st hl hw
  cases e : d' ws st with
  | ok w st' =>
    obtain ⟨rfl, h2, s2, h3⟩ := h ws st w st' hl hw e
    exact ⟨s2, h3, Nat.le_refl _, .inr ⟨h2, fun l o q => .inl q⟩⟩
  | ex c s => exact absurd e (hx ws st c s)
  | no => exact True.intro
theorem wf_mono {n m : Nat} (h : n ≤ m) : (∀ w : W, w.wf n = true → w.wf m = true) := by
  intro w
  refine W.rec (motive_1 := fun w => w.wf n = true → w.wf m = true) (motive_2 := fun ws => wfL n ws = true → wfL m ws = true) ?_ ?_ ?_ ?_ ?_ ?_ ?_ ?_ ?_ ?_ ?_ w
  · intro _; simp [W.wf]
  · intro _ _; simp [W.wf]
  · intro _ _; simp [W.wf]
  · intro _ _; simp [W.wf]
  · intro _ _; simp [W.wf]
  · intro ws ih q; simp only [W.wf] at q ⊢; exact ih q
  · intro ws ih q; simp only [W.wf] at q ⊢; exact ih q
  · intro ws ih q; simp only [W.wf] at q ⊢; exact ih q
  · intro l q
    simp only [W.wf, decide_eq_true_eq] at q ⊢
    omega
  · intro _; simp [wfL]
  · intro w ws i1 i2 q
    simp only [wfL, Bool.and_eq_true] at q ⊢
    exact ⟨i1 q.1, i2 q.2⟩
theorem wfL_mono {n m : Nat} (h : n ≤ m) {ws : List W} (q : wfL n ws = true) : wfL m ws = true := by
  have := wf_mono h (.tup ws) (by simpa [W.wf] using q)
  simpa [W.wf] using this
theorem O.wf_mono {n m : Nat} (h : n ≤ m) {o : O} (q : o.wf n = true) : o.wf m = true := by
  cases o with
  | dead => rfl
  | lst ws => exact wfL_mono h q
  | ins c fs => exact wfF_of fun i w e => ML.wf_mono h w (wfF_at (show wfF n fs = true from q) e)
  | dct kvs =>
    have key : ∀ kvs : List (Key × W), wfK n kvs = true → wfK m kvs = true := by
      intro kvs
      induction kvs with
      | nil => intro _; rfl
      | cons p ps ih =>
        intro q
        simp only [wfK, Bool.and_eq_true] at q ⊢
        exact ⟨ML.wf_mono h _ q.1, ih q.2⟩
    exact key kvs q
theorem fn_spec {P : Program} {w : World} {K : PySem.W.Frag} {mg : Str → Option Value} {base : Heap} {CX : CXT} {C : MC} {k n : Nat} {f : Addr} {fd : FuncData} {ps : List Str} {d d' : List W → Sto → R W} (F : FnOk P w K mg base CX k f fd ps (sp0 C n d)) (g : Gc n d d') :
    FnOk P w K mg base CX k f fd ps (sp0 C n d') := by
  refine F.imp fun vs H Q E ⟨hl, ρ, st, ws, r, S, p⟩ => ⟨hl, ρ, st, ws, r, S, ?_⟩
  have q := g ws st (by rw [← r.length]; exact hl) (by rw [← S.len]; exact r.wf)
  cases e : d' ws st with
  | no => rw [e] at p; exact p.elim
  | ex c s => rw [e] at p q; rw [q]; exact p
  | ok x st' =>
    rw [e] at p q
    obtain ⟨s2, h1, h2, h3⟩ := q
    rw [h1]
    intro H' ρ' v ev S' rv
    rcases h3 with h3 | ⟨h3, h4⟩
    · rw [h3, List.append_nil] at ev S' rv
      exact p H' ρ' v ev S' rv
    · have c : Cut ρ' (st' ++ s2) st'.length ⟨ρ'.pl.take st'.length, ρ'.hd⟩ st' := by
        have ln := S'.len
        rw [List.length_append] at ln
        refine ⟨fun l hl => by simp [List.getElem?_take, hl], fun l hl => by rw [List.getElem?_append_left hl], ?_, rfl, rfl⟩
        show (ρ'.pl.take st'.length).length = _
        rw [List.length_take]
        omega
      refine p H' ⟨ρ'.pl.take st'.length, ρ'.hd⟩ v ⟨fun l a h => ?_, fun l h => ?_, ev.keep, fun l a h => ?_, ev.dom, ev.newh, ev.oldh⟩ (S'.cut c fun l o e2 => ?_) (rv.cut c h3)
      · have hl : l < st'.length := by
          have := (List.getElem?_eq_some_iff.mp h).1
          rw [S.len] at this
          omega
        rw [c.pl l hl]
        exact ev.pre l a h
      · have hl : l < st'.length := by
          have := (List.getElem?_eq_some_iff.mp h).1
          omega
        rw [c.st l hl]
        exact ev.dd l h
      · have hl := (List.getElem?_eq_some_iff.mp h).1
        rw [c.lp] at hl
        rw [c.pl l hl] at h
        exact ev.new l a h
      · rcases h4 l o e2 with q | q
        · exact O.wf_mono h2 (S.wf q)
        · exact q
/-! ### the law -/
def spLaw (K : PySem.W.Frag) : Sp := fun vs H Q _ => ∃ (a : Addr) (ns : List Int), vs = [.ref a] ∧ SqL K H a (ns.map V.int) ∧ ns.length ≤ 63 ∧ ∀ H', Q (.bl true) H'
theorem law_ok {P : Program} {w : World} {K : PySem.W.Frag} {mg : Str → Option Value} {base : Heap} {CX : CXT} {C : MC} {k : Nat} {f : Addr} {fd : FuncData} {ps : List Str} {d : List W → Sto → R W} (hK : C.K = K) (F : FnOk P w K mg base CX k f fd ps (sp0 C 1 d))
    (h : ∀ ns : List Int, ns.length ≤ 63 → ∃ st', d [.kl (ns.map W.int)] [] = .ok (.bl true) st') : FnOk P w K mg base CX k f fd ps (spLaw K) := by
  refine F.imp fun vs H Q E ⟨a, ns, ev, hS, hl, hQ⟩ => ?_
  obtain ⟨st', hd⟩ := h ns hl
  subst hK
  refine ⟨by rw [ev]; rfl, ⟨[], []⟩, [], [.kl (ns.map W.int)], ?_, ⟨rfl, fun l m a h => by simp at h, fun l a o h => by simp at h, fun a h => by simp at h⟩, ?_⟩
  · rw [ev]
    refine .cons (.kl ?_ (repL_ints ns)) .nil
    rcases hS with (q | q) | q
    · exact .inl ⟨q, fun l h => by simp at h, by simp⟩
    · exact .inr (.inl q)
    · exact .inr (.inr (.inr q))
  · rw [hd]
    intro H' ρ' v _ _ r
    cases r
    exact hQ H'
end
end ML

/-! ML8: more rules -/
namespace ML
open PySem L2
noncomputable section
section
variable {X : Cx} {C : MC} {E : XK} {a b c e o value : Expr} {ma mb mc mo mv : Ex} {pos pos' tpos : Pos} {es : List Expr} {mr : Ax}
/-! ### o.f among several targets -/
def setFd (c j : Nat) (x w : W) (s : Sto) : R Unit := match x with
  | .loc l => match s[l]? with
    | some (.ins c' fs) => if c' = c then .ok () (s.set l (.ins c' (fs.set j (some w)))) else .no
    | _ => .no
  | _ => .no
def gFd (c j : Nat) (o : Ex) : W → En → Sto → R En := fun w env st => (o env st).bind fun x s1 => (setFd c j x w s1).bind fun _ s2 => .ok env s2
theorem mg_fld {c j : Nat} {Cd : Addr} {nm : List Str} {f : Str} (hc : C.cls[c]? = some (Cd, nm)) (nd : nm.Nodup) (hl : nm.length < 1000) (hj : nm[j]? = some f) (cl : Cls X.K Cd) (na : NoAttr X.K Cd f) (ho : ME X C E o mo) : MG X C E (.Attribute o f pos) (gFd c j mo) := by
  refine ⟨fun pins s σ H v u Q I r ⟨ρ, st, env, w, re, S, rw_, p⟩ => ?_⟩
  rw [assign_Attribute]
  have h1 : tM C E mo σ H fun x H1 => ∃ a dx fvs, x = .ref a ∧ H1 a = some (.ins Cd dx fvs) ∧ fvs.length < 1000 ∧ Q σ (upd H1 a (.ins Cd dx (putF f v fvs))) := by
    refine ⟨ρ, st, env, re, S, Post.bind p fun x s1 H1 ρ1 vx hx e1 S1 r1 p1 => ?_⟩
    unfold setFd at p1
    split at p1
    · split at p1
      · rename_i c' fs es
        split at p1
        · rename_i ec
          subst ec
          cases r1 with
          | @loc a l q =>
            obtain ⟨Cd', nm', dx, fvs, q1, q2, q3⟩ := S1.obj _ a _ q es
            rw [hc] at q1; cases q1
            obtain ⟨ev, S3⟩ := ins_write (dx := dx) S1 hc nd hj q es q3 (rw_.evo e1 S.liv)
            exact ⟨a, dx, fvs, rfl, q2, q3.small hl, p1 _ ρ1 σ ev S3 ((re.evo e1 S.liv).evo ev S1.liv)⟩
        · exact p1.elim
      · exact p1.elim
    · exact p1.elim
  refine wpAny_bind (wpAny_holding (thn (ho.run pins s σ H _ I h1) fun ov s1 ⟨x, H1, I1, r1, a, dx, fvs, ex, ea, hs, q⟩ => ?_))
  subst ex
  have eo : ov = Value.ref a := r1
  subst eo
  exact wpAny_bind (wpAny_standAt (wpAny_bind (wpAny_holding (setattr_ok I1 ea cl na hs r fun s3 I3 => wpAny_release ⟨σ, _, I3, q⟩))))
/-! ### in, of data at any depth -/
def rInU (K : PySem.W.Frag) (neg : Bool) : R2 := fun x y H Q => ∃ d ds, Dp K H x d ∧ (Dp K H y (.list ds) ∨ Dp K H y (.tuple ds)) ∧ SeqAt.shaped d = true ∧ SeqAt.shaped (.list ds) = true ∧ Q (.bl (if neg then !ds.any fun z => PyData.eqv z d else ds.any fun z => PyData.eqv z d)) H
theorem room_in {A : Around} {d : PyData} {ds : List PyData} (sd : SeqAt.shaped d = true) (hu : A.units + 65 < cLine) : A.units + 1 + min d.depth (PyData.depthAll ds) < cLine := by
  have h1 := SeqAt.depth_of_shaped sd
  have h2 : min d.depth (PyData.depthAll ds) ≤ d.depth := Nat.min_le_left _ _
  omega
theorem op_inU (hu : X.A.units + 65 < cLine) : OpR X (compareOp .In) (rInU X.K false) := by
  intro pins s σ H x y v u Q I rx ry ⟨d, ds, hd, he, sd, se, q⟩
  obtain ⟨as, r1⟩ := Dp.reads I d x v hd rx
  rcases he with he | he
  · obtain ⟨bs, r2⟩ := Dp.reads I (.list ds) y u he ry
    exact SeqAt.in_list_reads r2 r1 (SeqAt.canLay_of_shaped se) (SeqAt.canLay_of_shaped sd) (by have := SeqAt.depth_of_shaped sd; have : min (PyData.depthAll ds) d.depth ≤ d.depth := Nat.min_le_right _ _; omega) ⟨.bl _, H, I, rfl, q⟩
  · obtain ⟨bs, r2⟩ := Dp.reads I (.tuple ds) y u he ry
    exact SeqAt.in_tuple_reads r2 r1 (SeqAt.canLay_of_shaped se) (SeqAt.canLay_of_shaped sd) (by have := SeqAt.depth_of_shaped sd; have : min (PyData.depthAll ds) d.depth ≤ d.depth := Nat.min_le_right _ _; omega) ⟨.bl _, H, I, rfl, q⟩
theorem op_ninU (hu : X.A.units + 65 < cLine) : OpR X (compareOp .NotIn) (rInU X.K true) := by
  intro pins s σ H x y v u Q I rx ry ⟨d, ds, hd, he, sd, se, q⟩
  obtain ⟨as, r1⟩ := Dp.reads I d x v hd rx
  rcases he with he | he
  · obtain ⟨bs, r2⟩ := Dp.reads I (.list ds) y u he ry
    exact SeqAt.notIn_list_reads r2 r1 (SeqAt.canLay_of_shaped se) (SeqAt.canLay_of_shaped sd) (by have := SeqAt.depth_of_shaped sd; have : min (PyData.depthAll ds) d.depth ≤ d.depth := Nat.min_le_right _ _; omega) ⟨.bl _, H, I, rfl, q⟩
  · obtain ⟨bs, r2⟩ := Dp.reads I (.tuple ds) y u he ry
    exact SeqAt.notIn_tuple_reads r2 r1 (SeqAt.canLay_of_shaped se) (SeqAt.canLay_of_shaped sd) (by have := SeqAt.depth_of_shaped sd; have : min (PyData.depthAll ds) d.depth ≤ d.depth := Nat.min_le_right _ _; omega) ⟨.bl _, H, I, rfl, q⟩
def datItems (s : Sto) (y : W) : Option (List PyData) := match datS s 3 y with
  | some (.list ds) => some ds
  | some (.tuple ds) => some ds
  | _ => none
def inDW (neg : Bool) (x y : W) (s : Sto) : R W := match datS s 3 x, datItems s y with
  | some d, some ds => if SeqAt.shaped d = true ∧ SeqAt.shaped (.list ds) = true then .ok (.bl (if neg then !ds.any fun z => PyData.eqv z d else ds.any fun z => PyData.eqv z d)) s else .no
  | _, _ => .no
theorem om_inU {neg : Bool} : OpM C E (rInU C.K neg) (inDW neg) := by
  intro H ρ st v u x y Q S rx ry p
  unfold inDW at p
  split at p
  · rename_i d ds e1 e2
    split at p
    · rename_i h
      refine ⟨d, ds, datS_rep S 3 x v d rx e1, ?_, h.1, h.2, p H ρ _ (Evo.refl ..) S (.bl _)⟩
      unfold datItems at e2
      split at e2
      · rename_i e3; cases e2; exact .inl (datS_rep S 3 y u _ ry e3)
      · rename_i e3; cases e2; exact .inr (datS_rep S 3 y u _ ry e3)
      · cases e2
    · exact p.elim
  · exact p.elim
/-! ### constants of the module -/
theorem me_gint {x : Str} {i : Int} {pos : Pos} (hg : Gl X x) (hm : ∃ t, X.mg x = some (.int i t)) (hd : (x == ("__debug__" : Str)) = false := by decide) : ME X C E (.Name x pos) (kk (.int i)) := by
  obtain ⟨t, hm⟩ := hm
  exact me_glob hg hm (v := .int i) ⟨t, rfl⟩ ⟨fun _ _ _ => .int i⟩ hd
theorem me_gref {x : Str} {a : Addr} {w : W} {pos : Pos} (hg : Gl X x) (hm : X.mg x = some (.ref a)) (g : GC C.K (.ref a) w) (hd : (x == ("__debug__" : Str)) = false := by decide) : ME X C E (.Name x pos) (kk w) :=
  me_glob hg hm (v := .ref a) rfl g hd
/-- what stands in the written part, by its values -/
inductive KW (K : PySem.W.Frag) : Value → W → Prop
  | non : KW K .none .non
  | bl (b : Bool) : KW K (.bool b) (.bl b)
  | int (i : Int) (t : Tok) : KW K (.int i t) (.int i)
  | str (x : Str) (t : Tok) : KW K (.str x t) (.str x)
  | tup {a : Addr} {dd : Option Addr} {us : Array Value} {n : Nat} {sl : Array (Option Value)} {ws : List W} (h : K.lookup a = some ⟨.type "tuple", dd, .seq us n, sl⟩) (hz : us.size ≤ sizeLine) (r : Paired (KW K) us.toList ws) : KW K (.ref a) (.tup ws)
mutual
theorem KW.gc {K : PySem.W.Frag} : ∀ {u : Value} {w : W}, KW K u w → ∃ v, RelV v u ∧ GC K v w
  | _, _, .non => ⟨.non, rfl, ⟨fun _ _ _ => .non⟩⟩
  | _, _, .bl b => ⟨.bl b, rfl, ⟨fun _ _ _ => .bl b⟩⟩
  | _, _, .int i t => ⟨.int i, ⟨t, rfl⟩, ⟨fun _ _ _ => .int i⟩⟩
  | _, _, .str x t => ⟨.str x, ⟨t, rfl⟩, ⟨fun _ _ _ => .str x⟩⟩
  | _, _, .tup h hz r => by
    obtain ⟨vs, h1, h2⟩ := KW.gcs r
    exact ⟨.ref _, rfl, ⟨fun H ρ st => .tup (.inr ⟨_, _, _, h, rfl, rfl, hz, h1⟩) (h2 H ρ st)⟩⟩
theorem KW.gcs {K : PySem.W.Frag} : ∀ {us : List Value} {ws : List W}, Paired (KW K) us ws → ∃ vs, Vals vs us ∧ ∀ H ρ st, RepL K H ρ st vs ws
  | _, _, .nil => ⟨[], .nil, fun _ _ _ => .nil⟩
  | _, _, .cons h r => by
    obtain ⟨v, h1, h2⟩ := KW.gc h
    obtain ⟨vs, h3, h4⟩ := KW.gcs r
    exact ⟨v :: vs, .cons h1 h3, fun H ρ st => .cons (h2.rep H ρ st) (h4 H ρ st)⟩
end
theorem KW.ref {K : PySem.W.Frag} {a : Addr} {w : W} (h : KW K (.ref a) w) : GC K (.ref a) w := by
  obtain ⟨v, h1, h2⟩ := h.gc
  cases v with
  | ref b => cases h1; exact h2
  | non => cases h1
  | bl b => cases h1
  | ty n => cases h1
  | int i => obtain ⟨_, q⟩ := h1; cases q
  | str i => obtain ⟨_, q⟩ := h1; cases q
  | byt i => obtain ⟨_, q⟩ := h1; cases q
  | flt i => obtain ⟨_, q⟩ := h1; cases q
/-- code that is never come to -/
def noS : Sx := fun _ _ => .no
theorem ms_never {s : Stmt} : MS X C E s noS := PS.imp (t := tNever) ps_never fun D σ H ⟨ρ, st, env, re, S, p⟩ => p.elim
theorem mss_never {s : List Stmt} : MSs X C E s noS := PSs.imp (t := tNever) pss_never fun D σ H ⟨ρ, st, env, re, S, p⟩ => p.elim
end
end
end ML

/-! ML9: written tables with int keys; is of bools -/
namespace ML
open PySem L2
noncomputable section
def TabIs : List DictEntry → List (Int × Value) → Prop := Paired fun e p => (∃ t, e.key = Value.int p.1 t) ∧ e.hash = hashInt p.1 ∧ e.val = p.2
/-- a written dict with int keys, and how its values read -/
structure KTab (K : PySem.W.Frag) (a : Addr) (tw : List (Int × W)) : Prop where
  low : (a == sysModules) = false
  ex : ∃ es n ps, K.lookup a = some ⟨.type "dict", none, .dict es n, #[]⟩ ∧ TabIs es.toList ps ∧ Paired (fun (p : Int × Value) (q : Int × W) => p.1 = q.1 ∧ KW K p.2 q.2) ps tw
def tabV (ps : List (Int × Value)) (k : Int) : Option Value := (ps.find? fun p => decide (p.1 = k)).map (·.2)
theorem tab_find {k : Int} : ∀ {l : List DictEntry} {ps : List (Int × Value)}, TabIs l ps → (l.find? fun e => Value.isInt k e.key).map (·.val) = tabV ps k
  | [], [], _ => rfl
  | e :: l, p :: ps, h => by
    cases h with
    | cons h r =>
      obtain ⟨⟨t, h1⟩, h2, h3⟩ := h
      unfold tabV
      rw [List.find?_cons, List.find?_cons, h1]
      by_cases z : p.1 = k
      · have q : Value.isInt k (.int p.1 t) = true := by rw [z]; simp [Value.isInt]
        rw [q, decide_eq_true z]
        simp [h3]
      · have q : Value.isInt k (.int p.1 t) = false := by
          cases q : Value.isInt k (.int p.1 t) with
          | false => rfl
          | true =>
            obtain ⟨t', e'⟩ := Value.isInt_shape q
            cases e'
            exact absurd rfl z
        rw [q, decide_eq_false z]
        exact tab_find r
theorem tab_w {K : PySem.W.Frag} {k : Int} : ∀ {ps : List (Int × Value)} {tw : List (Int × W)}, Paired (fun (p : Int × Value) (q : Int × W) => p.1 = q.1 ∧ KW K p.2 q.2) ps tw →
    (tabV ps k = none ∧ tw.lookup k = none) ∨ ∃ u w, tabV ps k = some u ∧ tw.lookup k = some w ∧ KW K u w
  | [], [], _ => .inl ⟨rfl, rfl⟩
  | p :: ps, q :: tw, h => by
    cases h with
    | cons h r =>
      obtain ⟨k2, w⟩ := q
      obtain ⟨h1, h2⟩ := h
      simp only at h1 h2
      by_cases z : p.1 = k
      · refine .inr ⟨p.2, w, ?_, ?_, h2⟩
        · unfold tabV; rw [List.find?_cons, decide_eq_true z]; rfl
        · rw [List.lookup_cons, show (k == k2) = true by rw [← h1, z]; simp]
      · have e1 : tabV (p :: ps) k = tabV ps k := by unfold tabV; rw [List.find?_cons, decide_eq_false z]
        have e2 : ((k2, w) :: tw).lookup k = tw.lookup k := by
          rw [List.lookup_cons, show (k == k2) = false by rw [← h1]; simpa using fun e => z e.symm]
        rw [e1, e2]
        exact tab_w r
theorem KTab.map {K : PySem.W.Frag} {a : Addr} {tw : List (Int × W)} (T : KTab K a tw) {h : Heap} (X : K.In h) (prog : Program) (w : World) : ∃ ps, h.MapOf (intKind prog w) a (tabV ps) ∧ Paired (fun (p : Int × Value) (q : Int × W) => p.1 = q.1 ∧ KW K p.2 q.2) ps tw := by
  obtain ⟨es, n, ps, hl, ht, hw⟩ := T.ex
  refine ⟨ps, ⟨_, es, n, X _ _ hl, ⟨rfl, rfl, rfl⟩, rfl, fun e he => ?_, fun k => ?_⟩, hw⟩
  · have key : ∀ {l : List DictEntry} {ps : List (Int × Value)}, TabIs l ps → e ∈ l → ∃ k, Value.isInt k e.key = true ∧ e.hash = hashInt k := by
      intro l
      induction l with
      | nil => intro ps _ hm; cases hm
      | cons e' l ih =>
        intro ps ht hm
        cases ht with
        | cons h r =>
          rcases List.mem_cons.mp hm with z | hm
          · subst z
            obtain ⟨⟨t, h1⟩, h2, _⟩ := h
            exact ⟨_, by rw [h1]; simp [Value.isInt], h2⟩
          · exact ih r hm
    exact key ht (Array.mem_toList_iff.mpr he)
  · obtain ⟨l⟩ := es
    have q := tab_find (k := k) ht
    unfold findBy
    rw [List.find?_toArray]
    exact q
section
variable {X : Cx} {C : MC} {E : XK} {a b : Expr} {ma mb : Ex} {pos : Pos} {x : Str} {p : Pos} {ad : Addr} {tw : List (Int × W)}
def rInT (K : PySem.W.Frag) (ad : Addr) (tw : List (Int × W)) (neg : Bool) : R2 := fun x y H Q => ∃ k, x = .int k ∧ y = .ref ad ∧ Q (.bl (if neg then !(tw.lookup k).isSome else (tw.lookup k).isSome)) H
theorem op_inT (T : KTab X.K ad tw) : OpR X (compareOp .In) (rInT X.K ad tw false) := by
  intro pins s σ H x y v u Q I rx ry ⟨k, ex, ey, q⟩
  subst ex; subst ey
  obtain ⟨t, rfl⟩ := rx
  cases ry
  obtain ⟨ps, hm, hw⟩ := T.map I.kIn X.prog X.w
  refine wpAny_in_of (knd := intKind X.prog X.w) (k := k) (by show Value.isInt k (.int k t) = true; simp [Value.isInt]) T.low hm ⟨.bl (tw.lookup k).isSome, H, I.tok _, ?_, q⟩
  rcases tab_w (k := k) hw with ⟨h1, h2⟩ | ⟨u, w, h1, h2, _⟩ <;> rw [h1, h2] <;> rfl
def inT (tw : List (Int × W)) (x : W) (s : Sto) : R W := match x with
  | .int k => .ok (.bl (tw.lookup k).isSome) s
  | _ => .no
def ninT (tw : List (Int × W)) (x : W) (s : Sto) : R W := match x with
  | .int k => .ok (.bl (!(tw.lookup k).isSome)) s
  | _ => .no
theorem me_inT (T : KTab X.K ad tw) (ha : ME X C E a ma) (hg : Gl X x) (hm : X.mg x = some (.ref ad)) (hd : (x == ("__debug__" : Str)) = false := by decide) (hb : behindInMarks .In (.Name x p) = false := by rfl) : ME X C E (.Compare a [.In] [.Name x p] pos) (un (inT tw) ma) := by
  refine PE.imp (pe_cmpR (op_inT T) ha (pe_glob hg hm (v := .ref ad) rfl hd) hb) fun σ H Q ⟨ρ, st, env, re, S, p⟩ => ⟨ρ, st, env, re, S, Post.bind p fun x s1 H1 ρ1 v hx e1 S1 r1 p1 => ?_⟩
  unfold inT at p1
  split at p1
  · cases r1; exact ⟨_, rfl, rfl, p1 H1 ρ1 _ (Evo.refl ..) S1 (.bl _)⟩
  · exact p1.elim
theorem mt_inT (T : KTab X.K ad tw) (ha : ME X C E a ma) (hg : Gl X x) (hm : X.mg x = some (.ref ad)) (hd : (x == ("__debug__" : Str)) = false := by decide) (hb : behindInMarks .In (.Name x p) = false := by rfl) : MT X C E (.Compare a [.In] [.Name x p] pos) (tb (un (inT tw) ma)) := by
  refine PT.imp (pt_cmpR (op_inT T) ha (pe_glob hg hm (v := .ref ad) rfl hd) hb) fun σ H Q h => tTest_of (m := un (inT tw) ma) (fun σ H Q ⟨ρ, st, env, re, S, p⟩ => ⟨ρ, st, env, re, S, Post.bind p fun x s1 H1 ρ1 v hx e1 S1 r1 p1 => ?_⟩) h
  unfold inT at p1
  split at p1
  · cases r1; exact ⟨_, rfl, rfl, p1 H1 ρ1 _ (Evo.refl ..) S1 (.bl _)⟩
  · exact p1.elim
def getT (tw : List (Int × W)) (x : W) (s : Sto) : R W := match x with
  | .int k => match tw.lookup k with
    | some w => .ok w s
    | none => .no
  | _ => .no
/-- table[i] -/
theorem me_getT (hK : C.K = X.K) (T : KTab X.K ad tw) (hi : ME X C E b mb) (hg : Gl X x) (hm : X.mg x = some (.ref ad)) (hd : (x == ("__debug__" : Str)) = false := by decide) (hs : PlainIx b := by intro _ _; rfl) : ME X C E (.Subscript (.Name x p) b pos) (un (getT tw) mb) := by
  have hr : IxR X fun x y H Q => ∃ k w, x = .ref ad ∧ y = .int k ∧ tw.lookup k = some w ∧ ∀ u v, KW X.K u w → RelV v u → GC X.K v w → Q v H := by
    intro value slice pins s σ H x y v u Q I rx ry ⟨k, w, ex, ey, hw, q⟩ hs
    subst ex; subst ey
    obtain rfl : v = Value.ref ad := rx
    obtain ⟨t, rfl⟩ := ry
    obtain ⟨ps, hm, hp⟩ := T.map I.kIn X.prog X.w
    rcases tab_w (k := k) hp with ⟨h1, h2⟩ | ⟨u, w', h1, h2, h3⟩
    · rw [hw] at h2; cases h2
    · rw [hw] at h2; cases h2
      obtain ⟨v, hv1, hv2⟩ := h3.gc
      exact PyProof.Rows.tail_any hm.typeIs PySem.slot_dict_getitem.lookup (wpAny_getItem_of (knd := intKind X.prog X.w) (k := k) (by show Value.isInt k (.int k t) = true; simp [Value.isInt]) hm h1 ⟨v, H, I.tok _, hv1, q u v h3 hv1 hv2⟩) hs
  refine PE.imp (pe_ix hr (pe_glob hg hm (v := .ref ad) rfl hd) hi hs) fun σ H Q ⟨ρ, st, env, re, S, p⟩ => ⟨ρ, st, env, re, S, Post.bind p fun x s1 H1 ρ1 v hx e1 S1 r1 p1 => ?_⟩
  unfold getT at p1
  split at p1
  · split at p1
    · rename_i w hw
      cases r1
      refine ⟨_, w, rfl, rfl, hw, fun u v _ _ g => p1 H1 ρ1 v (Evo.refl ..) S1 ?_⟩
      exact (hK ▸ g : GC C.K v w).rep ..
    · exact p1.elim
  · exact p1.elim
/-- is True, is not True -/
def isbW (x y : W) (s : Sto) : R W := match x, y with
  | .bl i, .bl j => .ok (.bl (decide (i = j))) s
  | _, _ => .no
def nibW (x y : W) (s : Sto) : R W := match x, y with
  | .bl i, .bl j => .ok (.bl (!decide (i = j))) s
  | _, _ => .no
theorem om_isb : OpM C E rIsB isbW := by
  intro H ρ st v u x y Q S rx ry p
  unfold isbW at p
  split at p
  · cases rx; cases ry
    exact ⟨_, _, rfl, rfl, p H ρ _ (Evo.refl ..) S (.bl _)⟩
  · exact p.elim
theorem om_nib : OpM C E rNotB nibW := by
  intro H ρ st v u x y Q S rx ry p
  unfold nibW at p
  split at p
  · cases rx; cases ry
    exact ⟨_, _, rfl, rfl, p H ρ _ (Evo.refl ..) S (.bl _)⟩
  · exact p.elim
/-- xs.index(y) of a list of ints, y in it -/
def firstI (y : Int) : List Int → Nat
  | [] => 0
  | x :: xs => if x = y then 0 else firstI y xs + 1
theorem firstI_at {y : Int} : ∀ {xs : List Int}, y ∈ xs → xs[firstI y xs]? = some y ∧ ∀ m z, m < firstI y xs → xs[m]? = some z → z ≠ y
  | x :: xs, h => by
    unfold firstI
    by_cases e : x = y
    · rw [if_pos e]
      exact ⟨by simp [e], fun m z hm => by omega⟩
    · rw [if_neg e]
      have hm : y ∈ xs := by
        rcases List.mem_cons.mp h with q | q
        · exact absurd q.symm e
        · exact q
      obtain ⟨h1, h2⟩ := firstI_at hm
      refine ⟨by simpa using h1, fun m z hlt hz => ?_⟩
      cases m with
      | zero => simp at hz; rw [← hz]; exact e
      | succ m => exact h2 m z (by omega) (by simpa using hz)
def idxF (x : W) (ws : List W) (s : Sto) : R W := match (lstK s x).bind intsOf, ws with
  | some ns, [.int y] => if y ∈ ns then .ok (.int (firstI y ns)) s else .no
  | _, _ => .no
theorem mm_index : MtW C E (rIndex C.K) idxF := by
  intro H ρ st v vs x ws Q S rx rs p
  unfold idxF at p
  split at p
  · rename_i ns y e
    rw [Option.bind_eq_some_iff] at e
    obtain ⟨xs, e1, e2⟩ := e
    obtain ⟨a, us, rfl, q, r⟩ := lstK_rep S rx e1
    rw [intsOf_eq e2] at r
    obtain ⟨w, rfl, rw_⟩ := rs.one
    cases rw_
    have hv := r.ints
    split at p
    · rename_i hy
      obtain ⟨h1, h2⟩ := firstI_at hy
      refine ⟨a, us, .int y, firstI y ns, .int y, rfl, rfl, q, rfl, by rw [hv]; simp [flatV], by rw [hv, List.getElem?_map, h1]; rfl, by simp [eqV], fun m z hm hz => ?_, p H ρ _ (Evo.refl ..) S (.int _)⟩
      rw [hv, List.getElem?_map] at hz
      cases e3 : ns[m]? with
      | none => rw [e3] at hz; cases hz
      | some k =>
        rw [e3] at hz; cases hz
        have := h2 m k hm e3
        simp [eqV, this]
    · exact p.elim
  · exact p.elim
end
end
end ML

/-! ML10: a list that a def has made and nobody else holds is given as a value -/
namespace ML
open PySem L2
noncomputable section
def mapO (f : W → Option W) : List W → Option (List W)
  | [] => some []
  | w :: ws => match f w, mapO f ws with
    | some a, some b => some (a :: b)
    | _, _ => none
def fz (n : Nat) (s : Sto) : Nat → W → Option W
  | 0, _ => none
  | k + 1, .tup ws => (mapO (fz n s k) ws).map .tup
  | k + 1, .fl ws => (mapO (fz n s k) ws).map .fl
  | k + 1, .kl ws => (mapO (fz n s k) ws).map .kl
  | k + 1, .loc l => if l < n then some (.loc l) else match s[l]? with
    | some (.lst ws) => (mapO (fz n s k) ws).map .fl
    | _ => none
  | _ + 1, w => some w
section
variable {C : MC} {H : Hp} {ρ ρ1 : Pl} {st s1 : Sto} {n : Nat}
theorem fzs_rep {f : W → Option W} (h : ∀ v w w', Rep C.K H ρ st v w → f w = some w' → Rep C.K H ρ1 s1 v w') : ∀ {vs : List V} {ws ws' : List W}, RepL C.K H ρ st vs ws → mapO f ws = some ws' → RepL C.K H ρ1 s1 vs ws'
  | _, _, _, .nil, e => by cases e; exact .nil
  | _, w :: ws, ws', .cons r rs, e => by
    unfold mapO at e
    split at e
    · rename_i a b e1 e2
      cases e
      exact .cons (h _ _ _ r e1) (fzs_rep h rs e2)
    · cases e
theorem fz_rep (S : RelS C H ρ st) (c : Cut ρ st n ρ1 s1) : ∀ (k : Nat) (v : V) (w w' : W), Rep C.K H ρ st v w → fz n st k w = some w' → Rep C.K H ρ1 s1 v w' := by
  intro k
  induction k with
  | zero => intro v w w' _ e; cases e
  | succ k ih =>
    intro v w w' r e
    cases r with
    | non => cases e; exact .non
    | bl b => cases e; exact .bl b
    | int b => cases e; exact .int b
    | str b => cases e; exact .str b
    | raw b => cases e; exact .raw _
    | tup h r =>
      simp only [fz, Option.map_eq_some_iff] at e
      obtain ⟨ws', e, rfl⟩ := e
      exact .tup h (fzs_rep ih r e)
    | fl h q r =>
      simp only [fz, Option.map_eq_some_iff] at e
      obtain ⟨ws', e, rfl⟩ := e
      exact .fl h (q.cut c) (fzs_rep ih r e)
    | kl h r =>
      simp only [fz, Option.map_eq_some_iff] at e
      obtain ⟨ws', e, rfl⟩ := e
      refine .kl ?_ (fzs_rep ih r e)
      rcases h with ⟨h, q⟩ | h
      · exact .inl ⟨h, q.cut c⟩
      · exact .inr h
    | @loc a l h =>
      simp only [fz] at e
      split at e
      · rename_i hl
        cases e
        exact .loc (by rw [c.pl _ hl]; exact h)
      · rename_i hl
        split at e
        · rename_i ws es
          simp only [Option.map_eq_some_iff] at e
          obtain ⟨ws', e, rfl⟩ := e
          obtain ⟨vs, q, r⟩ := S.obj l a _ h es
          refine .fl q ⟨fun m hm => ?_, fun hm => ?_⟩ (fzs_rep ih r e)
          · have hlt := (List.getElem?_eq_some_iff.mp hm).1
            rw [c.lp] at hlt
            rw [c.pl _ hlt] at hm
            have := S.inj l m a h hm
            omega
          · rw [c.hd] at hm
            exact absurd h ((S.hid a hm).2 l)
        · cases e
end
section
variable {X : Cx} {E : XK} {a : Expr} {ma : Ex} {pos : Pos}
theorem mt_isN {C : MC} {j pos'} (ha : ME X C E a ma) : MT X C E (.Compare a [.Is] [.Constant .none j pos'] pos) (tb (un isnW ma)) := by
  refine PT.imp (pt_cmp (pc_isN ha) rfl) fun σ H Q h => tTest_of (m := un isnW ma) (fun σ H Q ⟨ρ, st, env, re, S, p⟩ => ⟨ρ, st, env, re, S, Post.bind p fun x s1 H1 ρ1 v _ e1 S1 r1 p1 => ?_⟩) h
  cases r1 <;> first | exact p1.elim | exact p1 H1 ρ1 _ (Evo.refl ..) S1 (.bl _)
theorem mt_notN {C : MC} {j pos'} (ha : ME X C E a ma) : MT X C E (.Compare a [.IsNot] [.Constant .none j pos'] pos) (tb (un nonW ma)) := by
  refine PT.imp (pt_cmp (pc_notN ha) rfl) fun σ H Q h => tTest_of (m := un nonW ma) (fun σ H Q ⟨ρ, st, env, re, S, p⟩ => ⟨ρ, st, env, re, S, Post.bind p fun x s1 H1 ρ1 v _ e1 S1 r1 p1 => ?_⟩) h
  cases r1 <;> first | exact p1.elim | exact p1 H1 ρ1 _ (Evo.refl ..) S1 (.bl _)
end
/-- d' is what callers know of d: its lists are values -/
def Gz (n : Nat) (d d' : List W → Sto → R W) : Prop := ∀ (ws : List W) (st : Sto), ws.length = n → wfL st.length ws = true → match d' ws st with
  | .ok w' st' => ∃ w s2 k, d ws st = .ok w (st' ++ s2) ∧ st.length ≤ st'.length ∧ fz st'.length (st' ++ s2) k w = some w' ∧ (∀ (l : Nat) (o : O), st'[l]? = some o → st[l]? = some o ∨ o.wf st'.length = true)
  | .ex c s => d ws st = .ex c s
  | .no => True
theorem fn_gz {P : Program} {w : World} {K : PySem.W.Frag} {mg : Str → Option Value} {base : Heap} {CX : CXT} {C : MC} {k n : Nat} {f : Addr} {fd : FuncData} {ps : List Str} {d d' : List W → Sto → R W} (F : FnOk P w K mg base CX k f fd ps (sp0 C n d)) (g : Gz n d d') :
    FnOk P w K mg base CX k f fd ps (sp0 C n d') := by
  refine F.imp fun vs H Q E ⟨hl, ρ, st, ws, r, S, p⟩ => ⟨hl, ρ, st, ws, r, S, ?_⟩
  have q := g ws st (by rw [← r.length]; exact hl) (by rw [← S.len]; exact r.wf)
  cases e : d' ws st with
  | no => rw [e] at p; exact p.elim
  | ex c s => rw [e] at p q; rw [q]; exact p
  | ok x st' =>
    rw [e] at p q
    obtain ⟨w0, s2, kk, h1, h2, h3, h4⟩ := q
    rw [h1]
    intro H' ρ' v ev S' rv
    have c : Cut ρ' (st' ++ s2) st'.length ⟨ρ'.pl.take st'.length, ρ'.hd⟩ st' := by
      have ln := S'.len
      rw [List.length_append] at ln
      refine ⟨fun l hl => by simp [List.getElem?_take, hl], fun l hl => by rw [List.getElem?_append_left hl], ?_, rfl, rfl⟩
      show (ρ'.pl.take st'.length).length = _
      rw [List.length_take]
      omega
    refine p H' ⟨ρ'.pl.take st'.length, ρ'.hd⟩ v ⟨fun l a h => ?_, fun l h => ?_, ev.keep, fun l a h => ?_, ev.dom, ev.newh, ev.oldh⟩ (S'.cut c fun l o e2 => ?_) (fz_rep S' c kk v w0 x rv h3)
    · have hl : l < st'.length := by
        have := (List.getElem?_eq_some_iff.mp h).1
        rw [S.len] at this
        omega
      rw [c.pl l hl]
      exact ev.pre l a h
    · have hl : l < st'.length := by
        have := (List.getElem?_eq_some_iff.mp h).1
        omega
      rw [c.st l hl]
      exact ev.dd l h
    · have hl := (List.getElem?_eq_some_iff.mp h).1
      rw [c.lp] at hl
      rw [c.pl l hl] at h
      exact ev.new l a h
    · rcases h4 l o e2 with q | q
      · exact O.wf_mono h2 (S.wf q)
      · exact q
/-- the store stays -/
theorem Gz.pure {n : Nat} {d d' : List W → Sto → R W} (h : ∀ ws st w st', ws.length = n → wfL st.length ws = true → d' ws st = .ok w st' → st' = st ∧ ∃ w0 s2 k, d ws st = .ok w0 (st ++ s2) ∧ fz st.length (st ++ s2) k w0 = some w) (hx : ∀ ws st c s, d' ws st ≠ .ex c s) : Gz n d d' := by
  intro ws st hl hw
  cases e : d' ws st with
  | ok w st' =>
    obtain ⟨rfl, w0, s2, k, h1, h2⟩ := h ws st w st' hl hw e
    exact ⟨w0, s2, k, h1, Nat.le_refl _, h2, fun l o q => .inl q⟩
  | ex c s => exact absurd e (hx ws st c s)
  | no => exact True.intro
theorem mapO_some {f : W → Option W} (h : ∀ w, f w = some w) : ∀ ws : List W, mapO f ws = some ws
  | [] => rfl
  | w :: ws => by unfold mapO; rw [h w, mapO_some h ws]
theorem mapO_ints {f : W → Option W} (h : ∀ i, f (.int i) = some (.int i)) : ∀ ns : List Int, mapO f (ns.map W.int) = some (ns.map W.int)
  | [] => rfl
  | n :: ns => by simp only [List.map_cons]; unfold mapO; rw [h n, mapO_ints h ns]
/-- a list of ints, made by the def -/
theorem fz_ints {st : Sto} {ns : List Int} {s2 : Sto} : fz st.length (st ++ .lst (ns.map W.int) :: s2) 2 (.loc st.length) = some (.fl (ns.map W.int)) := by
  simp only [fz, Nat.lt_irrefl, if_false]
  rw [List.getElem?_append_right (Nat.le_refl _)]
  simp only [Nat.sub_self, List.getElem?_cons_zero]
  rw [mapO_ints (f := fz st.length (st ++ O.lst (List.map W.int ns) :: s2) 1) (fun i => rfl)]
  rfl
end
end ML

/-! ML11: zip, enumerate -/
namespace ML
open PySem L2
noncomputable section
variable {X : Cx} {C : MC} {E : XK} {a b c e o value : Expr} {ma mb mc mo mv : Ex} {pos pos' tpos : Pos} {es : List Expr} {mr : Ax}
def zipW (xs ys : List W) : List W := List.zipWith (fun a b => W.tup [a, b]) xs ys
def valW : W → Bool
  | .fl _ => true
  | .kl _ => true
  | _ => false
theorem valW_lst {x : W} (h : valW x = true) (s s' : Sto) : lstK s x = lstK s' x := by
  cases x <;> first | rfl | cases h
theorem zipW_at (xs ys : List W) (i : Nat) : (∃ x y, (zipW xs ys)[i]? = some (.tup [x, y]) ∧ xs[i]? = some x ∧ ys[i]? = some y) ∨ ((zipW xs ys)[i]? = none ∧ (xs.length ≤ i ∨ ys.length ≤ i)) := by
  unfold zipW
  by_cases h1 : i < xs.length
  · by_cases h2 : i < ys.length
    · exact .inl ⟨xs[i], ys[i], by simp [List.getElem?_zipWith, h1, h2], by simp [h1], by simp [h2]⟩
    · exact .inr ⟨by rw [List.getElem?_eq_none_iff]; simp; omega, .inr (by omega)⟩
  · exact .inr ⟨by rw [List.getElem?_eq_none_iff]; simp; omega, .inl (by omega)⟩
theorem yld2 {H : Hp} {ρ : Pl} {st : Sto} {T : Addr} {u v : V} {x y : W} (S : RelS C H ρ st) (hT : H T = none) (r1 : Rep C.K H ρ st u x) (r2 : Rep C.K H ρ st v y) :
    Evo H ρ st (upd H T (.tup [u, v])) ρ st ∧ RelS C (upd H T (.tup [u, v])) ρ st ∧ Rep C.K (upd H T (.tup [u, v])) ρ st (.ref T) (.tup [x, y]) :=
  ⟨Evo.laid hT, S.laid hT, tup_new S hT (.cons r1 (.cons r2 .nil))⟩
theorem itz_rel {H : Hp} {ρ : Pl} {st : Sto} {a b : Addr} {x y : W} {src : Src} (S : RelS C H ρ st) (r1 : Rep C.K H ρ st (.ref a) x) (r2 : Rep C.K H ρ st (.ref b) y)
    (h : ∀ st' i o, src.at i st' = some o → ∃ xs ys, lstK st' x = some xs ∧ lstK st' y = some ys ∧ o = (zipW xs ys)[i]?) : ItRel C (Itz C.K a b) H ρ st src := by
  intro H' ρ' st' ev S' i o ho
  have q1 := r1.evo ev S.liv
  have q2 := r2.evo ev S.liv
  obtain ⟨xs, ys, e1, e2, eo⟩ := h _ _ _ ho
  obtain ⟨a', vs, ea, k1, l1⟩ := lstK_rep S' q1 e1
  obtain ⟨b', us, eb, k2, l2⟩ := lstK_rep S' q2 e2
  cases ea; cases eb
  rcases zipW_at xs ys i with ⟨x, y, hz, hx, hy⟩ | ⟨hz, hl⟩
  · rw [hz] at eo
    subst eo
    obtain ⟨v, hv, rv⟩ := l1.get hx
    obtain ⟨u, hu, ru⟩ := l2.get hy
    refine ⟨⟨vs, us, v, u, k1, k2, hv, hu⟩, fun z H'' hy => ?_⟩
    obtain ⟨T, v', u', ez, hT, eH, h1, h2⟩ := hy
    have e1 := h1 vs k1
    have e2 := h2 us k2
    rw [hv] at e1; cases e1
    rw [hu] at e2; cases e2
    rw [ez, eH]
    exact yld2 S' hT rv ru
  · rw [hz] at eo
    subst eo
    exact ⟨vs, us, k1, k2, by rw [l1.length, l2.length]; exact hl⟩
theorem itzT_rel {H : Hp} {ρ : Pl} {st : Sto} {a b : Addr} {vs us : List V} {xs ys : List W} (S : RelS C H ρ st) (k1 : SqT C.K H a vs) (k2 : SqT C.K H b us) (l1 : RepL C.K H ρ st vs xs) (l2 : RepL C.K H ρ st us ys) : ItRel C (RZ.ItzT C.K a b) H ρ st (.st (zipW xs ys)) := by
  intro H' ρ' st' ev S' i o ho
  have k1 := SqT.evo ev S.liv k1
  have k2 := SqT.evo ev S.liv k2
  have l1 := l1.evo ev S.liv
  have l2 := l2.evo ev S.liv
  cases ho
  rcases zipW_at xs ys i with ⟨x, y, hz, hx, hy⟩ | ⟨hz, hl⟩
  · rw [hz]
    obtain ⟨v, hv, rv⟩ := l1.get hx
    obtain ⟨u, hu, ru⟩ := l2.get hy
    refine ⟨⟨vs, us, v, u, k1, k2, hv, hu⟩, fun z H'' hy => ?_⟩
    obtain ⟨T, v', u', ez, hT, eH, h1, h2⟩ := hy
    have e1 := h1 vs k1
    have e2 := h2 us k2
    rw [hv] at e1; cases e1
    rw [hu] at e2; cases e2
    rw [ez, eH]
    exact yld2 S' hT rv ru
  · rw [hz]
    exact ⟨vs, us, k1, k2, by rw [l1.length, l2.length]; exact hl⟩
def zpF (x y : W) (s : Sto) : R Src := match lstK s x, lstK s y with
  | some xs, some ys => if (valW x && valW y) = true then .ok (.st (zipW xs ys)) s else .ok (.dy (xs.length + 1) fun i st' => match lstK st' x, lstK st' y with
    | some xs, some ys => some ((zipW xs ys)[i]?)
    | _, _ => none) s
  | _, _ => .no
def zpI (m : Ax) : Ix := fun env st => (m env st).bind fun ws s => match ws with
  | [.tup xs, .tup ys] => .ok (.st (zipW xs ys)) s
  | [x, y] => zpF x y s
  | _ => .no
theorem mi_zip {p : Pos} {elts : List Expr} {kk : Nat} (hK : C.K = X.K) (hg : Gl X "zip") (hm : X.mg "zip" = none) (ha : MA' X C E [a, b] mr)
    (hs : starEach [a, b] X.env = (false, eval a X.env) :: starEach [b] X.env := by rfl) (hpl : (backTo pos (starEach [b] X.env)).any (·.1) = false := by rfl) :
    MI X C E (.Tuple elts kk tpos) (.Call (.Name "zip" p) [a, b] [] pos) (zpI mr) := by
  refine PI.imp (RZ.pi_zipA hg hm ha.pa hs hpl) fun σ H R ⟨ρ, st, env, re, S, p⟩ => ⟨ρ, st, env, re, S, Post.bind (rel := relWs C) p fun ws s1 H1 ρ1 vs hw e1 S1 r1 p1 => ?_⟩
  rw [← hK]
  split at p1
  · obtain ⟨v, u, rfl, q1, q2⟩ := r1.two
    cases q1 with
    | tup k1 l1 => cases q2 with
      | tup k2 l2 => exact ⟨_, _, _, _, rfl, .inr ⟨k1, k2, p1 H1 ρ1 _ (Evo.refl ..) S1 (itzT_rel S1 k1 k2 l1 l2)⟩⟩
  · obtain ⟨v, u, rfl, q1, q2⟩ := r1.two
    unfold zpF at p1
    split at p1
    · rename_i xs ys h1 h2
      obtain ⟨a, vs, rfl, k1, l1⟩ := lstK_rep S1 q1 h1
      obtain ⟨b, us, rfl, k2, l2⟩ := lstK_rep S1 q2 h2
      split at p1
      · rename_i hv
        rw [Bool.and_eq_true] at hv
        refine ⟨_, _, _, _, rfl, .inl ⟨k1, k2, p1 H1 ρ1 _ (Evo.refl ..) S1 (itz_rel S1 q1 q2 fun st' i o ho => ⟨xs, ys, ?_, ?_, ?_⟩)⟩⟩
        · rw [valW_lst hv.1 st' s1, h1]
        · rw [valW_lst hv.2 st' s1, h2]
        · cases ho; rfl
      · refine ⟨_, _, _, _, rfl, .inl ⟨k1, k2, p1 H1 ρ1 _ (Evo.refl ..) S1 (itz_rel S1 q1 q2 fun st' i o ho => ?_)⟩⟩
        simp only [Src.at] at ho
        split at ho
        · rename_i xs ys e1 e2
          cases ho
          exact ⟨xs, ys, e1, e2, rfl⟩
        · cases ho
    · exact p1.elim
  · exact p1.elim
/-! enumerate -/
def enG (i : Nat) (w : W) : W := .tup [.int (i : Nat), w]
theorem ite_rel {H : Hp} {ρ : Pl} {st s : Sto} {a : Addr} {w : W} {src : Src} (S : RelS C H ρ st) (r : Rep C.K H ρ st (.ref a) w) (h : ∀ st' i o, src.at i st' = some o → ∃ ws, lstK st' w = some ws ∧ o = ws[i]?.map (enG i)) : ItRel C (Ite C.K a) H ρ st src := by
  intro H' ρ' st' ev S' i o ho
  have r' := r.evo ev S.liv
  obtain ⟨ws, e, eo⟩ := h _ _ _ ho
  obtain ⟨a', vs', ea, q', rr⟩ := lstK_rep S' r' e
  cases ea
  subst eo
  cases ei : ws[i]? with
  | none => exact ⟨vs', q', by rw [rr.length]; exact List.getElem?_eq_none_iff.mp ei⟩
  | some x =>
    obtain ⟨v, hv, rv⟩ := rr.get ei
    refine ⟨⟨vs', v, q', hv⟩, fun y H'' hy => ?_⟩
    obtain ⟨T, v', ez, hT, eH, h1⟩ := hy
    have e1 := h1 vs' q'
    rw [hv] at e1; cases e1
    rw [ez, eH]
    exact yld2 S' hT (.int _) rv
def enI (m : Ax) : Ix := fun env st => (m env st).bind fun ws s => match ws with
  | [w] => match srcL enG w s with
    | some src => .ok src s
    | none => .no
  | _ => .no
theorem mi_enum {p : Pos} {elts : List Expr} {kk : Nat} (hK : C.K = X.K) (hg : Gl X "enumerate") (hm : X.mg "enumerate" = none) (ha : MA' X C E [a] mr) (hs : starEach [a] X.env = [(false, eval a X.env)] := by rfl) :
    MI X C E (.Tuple elts kk tpos) (.Call (.Name "enumerate" p) [a] [] pos) (enI mr) := by
  refine PI.imp (pi_enum hg hm ha.pa hs) fun σ H R ⟨ρ, st, env, re, S, p⟩ => ⟨ρ, st, env, re, S, Post.bind (rel := relWs C) p fun ws s1 H1 ρ1 vs hw e1 S1 r1 p1 => ?_⟩
  rw [← hK]
  split at p1
  · obtain ⟨v, rfl, q1⟩ := r1.one
    split at p1
    · rename_i src e0
      obtain ⟨ws, ek⟩ := srcL_lst e0
      obtain ⟨a, vs, rfl, q, r⟩ := lstK_rep S1 q1 ek
      exact ⟨a, vs, rfl, q, p1 H1 ρ1 _ (Evo.refl ..) S1 (ite_rel (s := s1) S1 q1 fun st' i o ho => srcL_at e0 ho)⟩
    · exact p1.elim
  · exact p1.elim
end
end ML

/-! ML12: a comprehension with a place; == by an own __eq__; isinstance of an own class -/
namespace ML
open PySem L2
noncomputable section
section
variable {K : PySem.W.Frag} {H : Hp} {ρ : Pl} {st : Sto} {D : Addr} {u : O}
theorem NL.placed (hD : D ∈ ρ.hd) {a : Addr} (n : NL ρ st a) : NL ((ρ.show D).add D) (st ++ [u]) a := by
  refine ⟨fun l q => ?_, fun h => n.2 (show_sub h)⟩
  rcases add_at (ρ := ρ.show D) q with q | ⟨_, q⟩
  · have := n.1 l q
    rw [List.getElem?_append_left (List.getElem?_eq_some_iff.mp this).1]
    exact this
  · exact absurd (q ▸ hD) n.2
mutual
theorem Rep.placed (hD : D ∈ ρ.hd) : ∀ {v : V} {w : W}, Rep K H ρ st v w → Rep K H ((ρ.show D).add D) (st ++ [u]) v w
  | _, _, .non => .non
  | _, _, .bl b => .bl b
  | _, _, .int i => .int i
  | _, _, .str x => .str x
  | _, _, .raw v => .raw v
  | _, _, .tup h r => .tup h (RepL.placed hD r)
  | _, _, .fl h n r => .fl h (n.placed hD) (RepL.placed hD r)
  | _, _, .kl h r => .kl (by
      rcases h with ⟨h, n⟩ | h
      · exact .inl ⟨h, n.placed hD⟩
      · exact .inr h) (RepL.placed hD r)
  | _, _, .loc h => .loc (add_old (ρ := ρ.show D) h)
theorem RepL.placed (hD : D ∈ ρ.hd) : ∀ {vs : List V} {ws : List W}, RepL K H ρ st vs ws → RepL K H ((ρ.show D).add D) (st ++ [u]) vs ws
  | _, _, .nil => .nil
  | _, _, .cons h r => .cons (Rep.placed hD h) (RepL.placed hD r)
end
theorem RepK.placed (hD : D ∈ ρ.hd) : ∀ {kvs : List (Key × V)} {kws : List (Key × W)}, RepK K H ρ st kvs kws → RepK K H ((ρ.show D).add D) (st ++ [u]) kvs kws
  | [], [], _ => trivial
  | (k, v) :: kvs, (j, w) :: kws, h => ⟨h.1, h.2.1.placed hD, RepK.placed hD h.2.2⟩
  | [], _ :: _, h => h.elim
  | _ :: _, [], h => h.elim
end
theorem RelS.placed {C : MC} {H : Hp} {ρ : Pl} {st : Sto} {D : Addr} {vs : List V} {ws : List W} (S : RelS C H ρ st) (hD : D ∈ ρ.hd) (hl : H D = some (.lst vs)) (ra : RepL C.K H ρ st vs ws) : RelS C H ((ρ.show D).add D) (st ++ [.lst ws]) := by
  have nD := (S.hid D hD).2
  refine ⟨by show (ρ.pl ++ [D]).length = _; simp [S.len], fun l m a h1 h2 => ?_, fun l a x h e => ?_, fun a h => ?_⟩
  · rcases add_at (ρ := ρ.show D) h1 with h1 | ⟨h1, e1⟩
    · rcases add_at (ρ := ρ.show D) h2 with h2 | ⟨h2, e2⟩
      · exact S.inj l m a h1 h2
      · rw [e2] at h1; exact absurd h1 (nD l)
    · rcases add_at (ρ := ρ.show D) h2 with h2 | ⟨h2, e2⟩
      · rw [e1] at h2; exact absurd h2 (nD m)
      · rw [h1, h2]
  · rcases add_at (ρ := ρ.show D) h with h | ⟨h, ea⟩
    · have hlt : l < st.length := by rw [← S.len]; exact (List.getElem?_eq_some_iff.mp h).1
      rw [List.getElem?_append_left hlt] at e
      have q := S.obj l a x h e
      cases x with
      | dead => exact q
      | lst ws => obtain ⟨vs, q, r⟩ := q; exact ⟨vs, q, r.placed hD⟩
      | ins c fs => obtain ⟨Cd, nm, dx, fvs, q1, q2, r1, r2, r3⟩ := q; exact ⟨Cd, nm, dx, fvs, q1, q2, r1, fun i f w a b => let ⟨v, e, r⟩ := r2 i f w a b; ⟨v, e, r.placed hD⟩, r3⟩
      | dct kws => obtain ⟨kvs, q, r⟩ := q; exact ⟨kvs, q, RepK.placed hD r⟩
    · have hl' : l = st.length := by rw [h]; exact S.len
      rw [hl', List.getElem?_append_right (Nat.le_refl _)] at e
      simp at e
      rw [ea, ← e]
      exact ⟨vs, hl, ra.placed hD⟩
  · have hs := show_sub h
    refine ⟨(S.hid a hs).1, fun l z => ?_⟩
    rcases add_at (ρ := ρ.show D) z with z | ⟨_, z⟩
    · exact (S.hid a hs).2 l z
    · rw [z] at h; exact show_not h
variable {X : Cx} {C : MC} {E : XK} {a b c e o value : Expr} {ma mb mc mo mv : Ex} {pos pos' tpos : Pos} {es : List Expr} {mr : Ax}
variable {mi : Ix} {gV : TG} {g : W → En → Option En} {kt : Bx} {own : List Nat}
/-- [e for .. in .. if ..], the list has a place -/
def lcQ (vs : List Nat) (m : Ix) (g : W → En → Option En) (t : Bx) (e : Ex) : Ex := fun env st => (lcS vs m g t e env st).bind fun ws s => .ok (.loc s.length) (s ++ [.lst ws])
theorem tLcQ_of (ct : CT C.K own gV g) {σ : St} {H : Hp} {Q : VK} (h : tM C E (lcQ own mi g kt ma) σ H Q) : tLc (tMI C E mi) gV (tMB C E kt) (tM C E ma) own σ H Q := by
  obtain ⟨ρ, st, env, re, S, p⟩ := h
  unfold lcQ lcS at p
  rw [R.bind_assoc] at p
  refine ⟨ρ, st, env, re, S, Post.bind (rel := relSrc C) p fun src s1 H1 ρ1 J hj e1 S1 rj p1 => fun D hD => ?_⟩
  have re1 := (re.evo e1 S.liv).wipe own
  have p2 : Post (relW C) C E H1 ρ1 s1 ((lcF src.at g kt ma (wipeE env own) src.n 0 [] s1).bind fun ws s => .ok (.loc s.length) (s ++ [.lst ws])) Q := by
    cases src with
    | st ws =>
      simp only at p1
      split at p1
      · rename_i hl
        have hl := ck_iff.mp hl
        have q := lcL_F (g := g) (t := kt) (e := ma) (env := wipeE env own) (ws := ws) (ws.length + 1) 0 [] s1 (by omega) (by omega) (by simp) hl
        rw [List.drop_zero] at q
        show Post (relW C) C E H1 ρ1 s1 ((lcF (fun i _ => some ws[i]?) g kt ma (wipeE env own) (ws.length + 1) 0 [] s1).bind fun ws s => .ok (.loc s.length) (s ++ [.lst ws])) Q
        rw [q, R.bind_assoc]
        simpa using p1
      · exact p1.elim
    | dy n f => exact p1
  have e0 : Evo H1 ρ1 s1 (upd H1 D (.lst [])) (ρ1.hide D) s1 := Evo.hide hD
  refine ⟨fun i m H' => ∃ ρ' st' acc vacc, Evo H1 ρ1 s1 H' ρ' st' ∧ RelS C H' ρ' st' ∧ RelE C.K H' ρ' st' (wipe σ own) (wipeE env own) ∧ H' D = some (.lst vacc) ∧ D ∈ ρ'.hd ∧ RepL C.K H' ρ' st' vacc acc ∧
      Post (relW C) C E H1 ρ1 s1 ((lcF src.at g kt ma (wipeE env own) m i acc st').bind fun ws s => .ok (.loc s.length) (s ++ [.lst ws])) Q,
    ⟨src.n, ρ1.hide D, s1, [], [], e0, S1.hide hD trivial, re1.evo e0 S1.liv, upd_same, List.mem_cons_self, .nil, p2⟩, ?_⟩
  rintro i m H' ⟨ρ', st', acc, vacc, ev, S', re', hD', hm', ra, pp⟩
  cases m with
  | zero => exact pp.elim
  | succ n =>
    unfold lcF at pp
    cases ei : src.at i st' with
    | none => rw [ei] at pp; exact pp.elim
    | some o =>
      have q := rj H' ρ' st' ev S' i o ei
      rw [ei] at pp
      cases o with
      | none =>
        refine .inl ⟨q, pp H' ((ρ'.show D).add D) _ ⟨fun l a h => ?_, fun l h => ?_, ev.keep, fun l a h => ?_, ev.dom, fun a h => ev.newh a (show_sub h), fun a h => show_mem (ev.oldh a h) fun z => ?_⟩ (S'.placed hm' hD' ra) ?_⟩
        · exact add_old (ρ := ρ'.show D) (ev.pre l a h)
        · rw [List.getElem?_append_left (List.getElem?_eq_some_iff.mp (ev.dd l h)).1]
          exact ev.dd l h
        · rcases add_at (ρ := ρ'.show D) h with h | ⟨_, h⟩
          · exact ev.new l a h
          · rw [h]; exact .inr hD
        · obtain ⟨⟨u, e, _⟩, _⟩ := S1.hid a h
          rw [z, hD] at e; cases e
        · refine .loc ?_
          rw [← S'.len]
          exact add_new (ρ := ρ'.show D)
      | some w =>
        simp only at pp
        cases eg : g w (wipeE env own) with
        | none => rw [eg] at pp; exact pp.elim
        | some env1 =>
          rw [eg] at pp
          simp only [R.bind_assoc] at pp
          refine .inr ⟨q.1, fun H' => ∃ ρ' st' acc vacc, Evo H1 ρ1 s1 H' ρ' st' ∧ RelS C H' ρ' st' ∧ RelE C.K H' ρ' st' (wipe σ own) (wipeE env own) ∧ H' D = some (.lst vacc) ∧ D ∈ ρ'.hd ∧ RepL C.K H' ρ' st' vacc acc ∧
            Post (relW C) C E H1 ρ1 s1 ((lcF src.at g kt ma (wipeE env own) n (i + 1) acc st').bind fun ws s => .ok (.loc s.length) (s ++ [.lst ws])) Q, fun H' q => ⟨n, Nat.lt_succ_self n, q⟩, fun x H2 hy => ?_⟩
          obtain ⟨ev2, S2, rx⟩ := q.2 x H2 hy
          have on : ∀ {H3 ρ3 s3}, Evo H' ρ' st' H3 ρ3 s3 → Evo H1 ρ1 s1 H3 ρ3 s3 ∧ RelE C.K H3 ρ3 s3 (wipe σ own) (wipeE env own) ∧ H3 D = some (.lst vacc) ∧ D ∈ ρ3.hd ∧ RepL C.K H3 ρ3 s3 vacc acc := fun {H3 ρ3 s3} e3 =>
            ⟨ev.trans e3, re'.evo e3 S'.liv, e3.keep D _ hD' (fun l q => absurd q ((S'.hid D hm').2 l)), e3.oldh D hm', ra.evo e3 S'.liv⟩
          refine ct.ok H2 ρ' st' (wipe σ own) (wipeE env own) env1 x w _ (re'.evo ev2 S'.liv) rx eg fun σ1 re3 hw => ⟨hw.trans (wipe_wipe σ own), ?_⟩
          refine ⟨ρ', st', env1, re3, S2, Post.bindAt (rel := relB) pp (ev.trans ev2) fun k s3 H3 ρ3 kv hk e3 S3 rk p3 => ?_⟩
          have rk : kv = k := rk
          subst rk
          cases kv with
          | false =>
            refine (if_neg (by decide)).mpr ?_
            obtain ⟨a1, a2, a4, a5, a6⟩ := on (ev2.trans e3)
            exact ⟨ρ3, s3, acc, vacc, a1, S3, a2, a4, a5, a6, p3⟩
          | true =>
            refine (if_pos rfl).mpr ?_
            simp only [if_true, R.bind_assoc] at p3
            refine ⟨ρ3, s3, env1, re3.evo e3 S2.liv, S3, Post.bindAt (rel := relW C) p3 ((ev.trans ev2).trans e3) fun y s4 H4 ρ4 vy hy4 e4 S4 ry p4 => ?_⟩
            obtain ⟨a1, a2, a4, a5, a6⟩ := on ((ev2.trans e3).trans e4)
            split at p4
            · rename_i hl
              have hm : ∃ u, H4 D = some u ∧ isMutO u := ⟨_, a4, trivial⟩
              refine ⟨vacc, a4, by rw [a6.length]; exact Nat.lt_of_lt_of_le (ck_iff.mp hl) (by decide), ?_⟩
              refine ⟨ρ4, s4, acc ++ [y], vacc ++ [vy], ?_, S4.hidw a5 trivial, ?_, upd_same, a5, (a6.hidw a5 hm).append (.cons (ry.hidw a5 hm) .nil), p4⟩
              · have neD : ∀ b o, H1 b = some o → b ≠ D := fun b o hb z => by rw [z, hD] at hb; cases hb
                exact ⟨a1.pre, a1.dd, fun b o hb nl => by rw [upd_ne (neD b o hb)]; exact a1.keep b o hb nl, a1.new, fun b hb => by
                  by_cases z : b = D
                  · rw [z]; exact hD
                  · rw [upd_ne z] at hb; exact a1.dom b hb, a1.newh, a1.oldh⟩
              · exact ⟨a2.1, fun i w e => let ⟨v, q, r⟩ := a2.2 i w e; ⟨v, q, r.hidw a5 hm⟩⟩
            · exact p4.elim
variable {elt tg iter : Expr} {ifs : List Expr} {scope : Scope} {ownP : List (Str × Nat)}
/-- a comprehension, its list has a place -/
theorem me_lcQ {mt : Ex} (ct : CT C.K (ownP.map (·.2)) gV g) (hc : X.calm = true) (hN : X.N.Nodup) (hi : MI X C E tg iter mi) (ok : BlkOk X.N X.env.scope scope ownP)
    (hg : ∀ (s : Shared) (H : Hp) (C : Addr) (cl : List (Str × Addr)) (fp : List Addr), PG (X.blk s H scope (compEnvC scope cl C X.env) fp) tg gV) (ht : ∀ (s : Shared) (H : Hp) (Cc : Addr) (cl : List (Str × Addr)) (fp : List Addr), PTs (X.blk s H scope (compEnvC scope cl Cc X.env) fp) ifs (tMB C E kt))
    (he : ∀ (s : Shared) (H : Hp) (Cc : Addr) (cl : List (Str × Addr)) (fp : List Addr), ME (X.blk s H scope (compEnvC scope cl Cc X.env) fp) C E elt mt) (hs : ∀ x, foldedSetIterable iter X.env x = pure x := by intro _; rfl) :
    ME X C E (.ListComp elt [⟨tg, iter, ifs, 0⟩] scope pos) (lcQ (ownP.map (·.2)) mi g kt mt) :=
  PE.imp (pe_lc hc hN hi ok hg ht he hs) fun _ _ _ h => tLcQ_of ct h
/-- name = [..] -/
theorem ms_setLcQ {mt : Ex} {i : Nat} {y : Str} {py spos : Pos} (ct : CT C.K (ownP.map (·.2)) gV g) (hc : X.calm = true) (hN : X.N.Nodup) (hy : X.N[i]? = some y) (hyl : X.env.scope.names.lookup y = some .local)
    (hsw : swapsWith (.ListComp elt [⟨tg, iter, ifs, 0⟩] scope pos) (some (.Name y py)) spos.line X.env = pure true) (hi : MI X C E tg iter mi) (ok : BlkOk X.N X.env.scope scope ownP)
    (hg : ∀ (s : Shared) (H : Hp) (C : Addr) (cl : List (Str × Addr)) (fp : List Addr), PG (X.blk s H scope (compEnvC scope cl C X.env) fp) tg gV) (ht : ∀ (s : Shared) (H : Hp) (Cc : Addr) (cl : List (Str × Addr)) (fp : List Addr), PTs (X.blk s H scope (compEnvC scope cl Cc X.env) fp) ifs (tMB C E kt))
    (he : ∀ (s : Shared) (H : Hp) (Cc : Addr) (cl : List (Str × Addr)) (fp : List Addr), ME (X.blk s H scope (compEnvC scope cl Cc X.env) fp) C E elt mt) (hs : ∀ x, foldedSetIterable iter X.env x = pure x := by intro _; rfl) :
    MS X C E (.Assign [.Name y py] (.ListComp elt [⟨tg, iter, ifs, 0⟩] scope pos) spos) (setS i (lcQ (ownP.map (·.2)) mi g kt mt)) := by
  refine PS.imp (ps_setLc hc hN hy hyl hsw hi ok hg ht he hs) fun D σ H ⟨ρ, st, env, re, S, p⟩ => tLcQ_of ct ⟨ρ, st, env, re, S, PostS.bind (rel := relW C) p fun w s1 H1 ρ1 v hw e1 S1 r1 p1 => ?_⟩
  exact p1 H1 ρ1 _ (Evo.refl ..) S1 ((re.evo e1 S.liv).set r1 i)
/-! ### own classes: isinstance, == -/
structure OwnC (K : PySem.W.Frag) (Cd : Addr) : Prop where
  cl : Cls K Cd
  ha : PySem.W.findIn K (.ref Cd) "__class__" = some (some (.builtin "object.__class__"))
  hn : PySem.W.specialIn K (.builtin "object.__class__") "__get__" = some (some (.builtin "getset_descriptor.__get__"))
  tk : PySem.W.takesIn K (.builtin "object.__class__") = some true
  mr : PySem.W.mroIn K Cd (.type "object") = some true
  ci : PySem.W.isClsIn K Cd = true
  ti : PySem.W.typeIn K (.ref Cd) = some (.type "type")
  s0 : PySem.W.subIn K (.type "NoneType") (.ref Cd) = some false
  s1 : PySem.W.subIn K (.type "bool") (.ref Cd) = some false
  s2 : PySem.W.subIn K (.type "int") (.ref Cd) = some false
  s3 : PySem.W.subIn K (.type "str") (.ref Cd) = some false
  s4 : PySem.W.subIn K (.type "tuple") (.ref Cd) = some false
  s5 : PySem.W.subIn K (.type "list") (.ref Cd) = some false
theorem OwnC.sub {K : PySem.W.Frag} {Cd : Addr} (O : OwnC K Cd) (t : Ty) : PySem.W.subIn K (.type t.nm) (.ref Cd) = some false := by
  cases t with
  | non => exact O.s0
  | bl => exact O.s1
  | int => exact O.s2
  | str => exact O.s3
  | tup => exact O.s4
  | lst => exact O.s5
theorem OwnC.kit {K : PySem.W.Frag} {Cd : Addr} (O : OwnC K Cd) (t : Ty) : PySem.W.kitOne K (.type t.nm) (.ref Cd) = some false := by
  unfold PySem.W.kitOne
  rw [if_neg (by intro h; simp at h)]
  show (if ((PySem.W.clsIn K Cd).isSome && PySem.W.typeIn K (.ref Cd) == some (.type "type")) = true then PySem.W.subIn K (.type t.nm) (.ref Cd) else none) = some false
  have h := O.ci
  unfold PySem.W.isClsIn at h
  rw [if_pos (by rw [h, O.ti]; simp), O.sub t]
theorem OwnC.kitSelf {K : PySem.W.Frag} {Cd : Addr} : PySem.W.kitOne K (.ref Cd) (.ref Cd) = some true := by
  unfold PySem.W.kitOne
  rw [if_pos (by simp)]
theorem OwnC.first {K : PySem.W.Frag} {Cd : Addr} (O : OwnC K Cd) (t : Ty) : PySem.W.notFirst K Cd (.type t.nm) = true := by
  unfold PySem.W.notFirst
  rw [O.sub t]
  simp
theorem OwnC.firstSelf {K : PySem.W.Frag} {Cd : Addr} : PySem.W.notFirst K Cd (.ref Cd) = true := by
  unfold PySem.W.notFirst
  simp
theorem ins_tyx {H : Hp} {ρ : Pl} {st : Sto} {v : V} {w : W} {c : Nat} {Cd : Addr} {nm : List Str} (S : RelS C H ρ st) (r : Rep C.K H ρ st v w) (hc : C.cls[c]? = some (Cd, nm)) (O : OwnC C.K Cd) (h : isIns c w st = true) : TyX C.K H v (.ref Cd) := by
  obtain ⟨l, a, dx, fs, fvs, rfl, rfl, q1, q2, q3, q4⟩ := isIns_rep S r hc h
  exact .base (.ins q3 O.cl O.ha O.hn O.tk O.mr)
def isiO (c : Nat) (x : W) (s : Sto) : R W := if isIns c x s = true then .ok (.bl true) s else match tyOf s x with
  | some _ => .ok (.bl false) s
  | none => .no
theorem me_isiO {c : Nat} {Cd : Addr} {nm : List Str} {p p2 : Pos} {x : Str} (hK : C.K = X.K) (hc : C.cls[c]? = some (Cd, nm)) (O : OwnC X.K Cd) (ha : ME X C E a ma) (hgx : Gl X x) (hmx : X.mg x = some (.ref Cd)) (hg : Gl X "isinstance") (hm : X.mg "isinstance" = none)
    (hd : (x == ("__debug__" : Str)) = false := by decide)
    (he : starEach [a, .Name x p2] X.env = (false, eval a X.env) :: starEach [.Name x p2] X.env := by rfl) (he2 : starEach [.Name x p2] X.env = (false, eval (.Name x p2) X.env) :: starEach [] X.env := by rfl) (hpl : (backTo pos (starEach [.Name x p2] X.env)).any (·.1) = false := by rfl) :
    ME X C E (.Call (.Name "isinstance" p) [a, .Name x p2] [] pos) (un (isiO c) ma) := by
  have hcx : PE X (.Name x p2) (tC (.ref Cd)) := pe_glob hgx hmx (v := .ref Cd) rfl hd
  refine PE.imp (pe_callB call_isi hg hm (by decide +kernel) (pa_cons ha (pa_cons hcx pa_nil he2) he) (by decide) (by decide) he hpl) fun σ H Q ⟨ρ, st, env, re, S, p⟩ => ⟨ρ, st, env, re, S, Post.bind p fun x s1 H1 ρ1 v _ e1 S1 r1 p1 => ?_⟩
  unfold isiO at p1
  split at p1
  · rename_i hi
    exact ⟨v, .ref Cd, .ref Cd, .ref Cd, true, rfl, .own _, hK ▸ ins_tyx S1 r1 hc (hK ▸ O) hi, OwnC.kitSelf, p1 H1 ρ1 _ (Evo.refl ..) S1 (.bl _)⟩
  · split at p1
    · rename_i t ht
      exact ⟨v, .ref Cd, .type t.nm, .ref Cd, false, rfl, .own _, hK ▸ tyOf_rep S1 r1 ht, O.kit t, p1 H1 ρ1 _ (Evo.refl ..) S1 (.bl _)⟩
    · exact p1.elim
/-- == by the text's own __eq__ -/
def rEqO (X : Cx) (C : MC) (Cd : Addr) (d : List W → Sto → R W) : R2 := fun x y H Q => ∃ a dx fvs tb, x = .ref a ∧ H a = some (.ins Cd dx fvs) ∧ TyX X.K H y tb ∧ PySem.W.notFirst X.K Cd tb = true ∧ ∃ E', sp0 C 2 d [x, y] H (fun v H' => ∃ b, v = .bl b ∧ Q v H') E'
theorem op_eqO {k : Nat} {f Cd : Addr} {fd : FuncData} {ps : List Str} {d : List W → Sto → R W} (F : FnOk X.prog X.w X.K X.mg X.base CX0 k f fd ps (sp0 C 2 d)) (hr : Room k X.A)
    (hs : PySem.W.findIn X.K (.ref Cd) "__eq__" = some (some (.ref f))) (hf : PySem.W.isFn X.K (.ref f) = true) (hb : Binds X.K fd ps []) : OpR X (compareOp .Eq) (rEqO X C Cd d) := by
  intro pins s σ H x y v u Q I rx ry ⟨a, dx, fvs, tb, ex, ha, ty, hn, E', hsp⟩
  subst ex
  obtain rfl : v = Value.ref a := rx
  obtain ⟨P, kx, hp, _⟩ := kit_of I ry ty
  obtain ⟨mA, J, _⟩ := ins_get I.hok ha
  obtain ⟨od, J, _⟩ := J.look
  obtain ⟨m, hF⟩ := I.fr
  show wpAny (model X.prog X.w) X.A (richCompare .Eq (.ref a) u) (EP X pins σ Q) X.xe s
  refine PySem.W.cmp_K (op := .Eq) (tb := tb) hr.units0 hF I.ok.mod.kin J (kx.ty _ _ I.kIn hp) hn hs hf ?_
  have hl := F.len _ _ _ _ hsp
  have r2 : Vals [V.ref a, y] [Value.ref a, u] := .cons rfl (.cons ry .nil)
  refine wpAny_call (codeAny_mono (F.run X.A X.stack s H ⟨[.ref a, u], []⟩ [.ref a, u] [.ref a, y] _ _ hr I.env0 (by
    have := hb s [.ref a, u] I.kIn (by simpa using hl)
    simpa using this) r2 hsp) fun r s' hq => ?_)
  cases r with
  | error e => exact pass0 pins σ H s e s' I hq
  | ok fl =>
    cases fl with
    | ret w =>
      obtain ⟨z, H', I', rz, b, ez, hQ⟩ := I.after hq
      subst ez
      cases rz
      exact ⟨.bl b, H', I', rfl, hQ⟩
    | next => exact False.elim hq
    | brk => exact False.elim hq
    | cont => exact False.elim hq
def eqO (c : Nat) (d : List W → Sto → R W) (x y : W) (s : Sto) : R W := if isIns c x s = true ∧ (isIns c y s = true ∨ (tyOf s y).isSome = true) then (d [x, y] s).bind fun z s' => match z with
    | .bl b => .ok (.bl b) s'
    | _ => .no else .no
theorem om_eqO {c : Nat} {Cd : Addr} {nm : List Str} {d : List W → Sto → R W} (hK : C.K = X.K) (hc : C.cls[c]? = some (Cd, nm)) (O : OwnC X.K Cd) : OpM C E0 (rEqO X C Cd d) (eqO c d) := by
  intro H ρ st v u x y Q S rx ry p
  unfold eqO at p
  split at p
  · rename_i h
    obtain ⟨h1, h2⟩ := h
    obtain ⟨l, a, dx, fs, fvs, rfl, rfl, q1, q2, q3, q4⟩ := isIns_rep S rx hc h1
    have fin : sp0 C 2 d [.ref a, u] H (fun v H' => ∃ b, v = .bl b ∧ Q v H') E0 := by
      refine ⟨rfl, ρ, st, [.loc l, y], .cons rx (.cons ry .nil), S, Post.bind p fun z s1 H1 ρ1 vz hz e1 S1 r1 p1 => ?_⟩
      split at p1
      · cases r1
        exact ⟨_, rfl, p1 H1 ρ1 _ (Evo.refl ..) S1 (.bl _)⟩
      · exact p1.elim
    by_cases hy : isIns c y st = true
    · exact ⟨a, dx, fvs, .ref Cd, rfl, q3, hK ▸ ins_tyx S ry hc (hK ▸ O) hy, OwnC.firstSelf, _, fin⟩
    · have h3 := h2.resolve_left hy
      cases ht : tyOf st y with
      | none => rw [ht] at h3; cases h3
      | some t => exact ⟨a, dx, fvs, .type t.nm, rfl, q3, hK ▸ tyOf_rep S ry ht, O.first t, _, fin⟩
  · exact p.elim
end
end ML

/-! ML13: xs[i] op= e -/
namespace ML
open PySem L2
noncomputable section
section
variable {X : Cx} {C : MC} {E : XK} {a b c e o value : Expr} {ma mb mc mo mi mv : Ex} {pos pos' tpos : Pos} {es : List Expr} {mr : Ax}
theorem get_list : PGet X (rIxL X.K) := by
  intro pins s σ H x y v u Q I rx ry h
  obtain ⟨p, xs, i, z, rfl, rfl, hq, he, q⟩ := h
  cases rx
  obtain ⟨t, rfl⟩ := ry
  obtain ⟨its, r, pl, hz⟩ := I.list hq
  obtain ⟨j, h1, h2, h3, h4, h5⟩ := atI_get he
  obtain ⟨w, ew, rw'⟩ := r.get h2
  have hl := r.length
  have hn := line63
  have fin : EP X pins σ Q w s := ⟨z, H, I, rw', q⟩
  by_cases h0 : 0 ≤ i
  · have hj : i.toNat = j := by
      rw [seqIndex_of h0 h5] at h1
      exact Option.some.inj h1
    exact wpAny_getItem_list pl.isList h0 (by omega) (by rw [hj]; simpa using ew) fin
  · have hj : (i + (its.toArray.size : Int)).toNat = j := by
      rw [seqIndex_neg (by omega) h4] at h1
      rw [List.size_toArray, ← hl]
      exact Option.some.inj h1
    exact wpAny_getItem_list_neg pl.isList (by omega) (by rw [List.size_toArray] <;> omega) (by omega) (by rw [hj]; simpa using ew) fin
theorem me_gstr {x i : Str} {pos : Pos} (hg : Gl X x) (hm : ∃ t, X.mg x = some (.str i t)) (hd : (x == ("__debug__" : Str)) = false := by decide) : ME X C E (.Name x pos) (kk (.str i)) := by
  obtain ⟨t, hm⟩ := hm
  exact me_glob hg hm (v := .str i) ⟨t, rfl⟩ ⟨fun _ _ _ => .str i⟩ hd
def ixP (x y : W) (s : Sto) : R W := match x, y with
  | .loc l, .int k => match s[l]? with
    | some (.lst ws) => match atI ws k with
      | some w => .ok w s
      | none => .no
    | _ => .no
  | _, _ => .no
def augI (g : W → W → Sto → R W) (mo mi mv : Ex) : Sx := fun env st => (mo env st).toS fun x s1 => (mi env s1).toS fun y s2 => (ixP x y s2).toS fun old s3 => (mv env s3).toS fun w s4 => (g old w s4).toS fun z s5 => (setI x y z s5).toS fun _ s6 => .nx env s6
theorem ms_augI {op : Operator} {ti : TIp} {f : W → W → Sto → R W} (hK : C.K = X.K) (ho : ME X C E o mo) (hi : ME X C E a mi) (hv : ME X C E value mv) (hp : PIp X op ti) (hf : OpM C E ti f)
    (ha : ∀ ov iv new, augStore a ov iv new = (do holding [new, ov, iv] (setItem ov iv new); release [new, ov, iv] []; pure .next) := by intros; rfl) : MS X C E (.AugAssign (.Subscript o a tpos) op value pos) (augI f mo mi mv) := by
  refine PS.imp (ps_augS ho hi get_list hv hp set_list ha) fun D σ H ⟨ρ, st, env, re, S, p⟩ => ⟨ρ, st, env, re, S, PostS.bind p fun x s1 H1 ρ1 vx hx e1 S1 r1 p1 => ?_⟩
  have re1 := re.evo e1 S.liv
  refine ⟨ρ1, s1, env, re1, S1, PostS.bind p1 fun y s2 H2 ρ2 vy hy e2 S2 r2 p2 => ?_⟩
  have re2 := re1.evo e2 S1.liv
  have rx := r1.evo e2 S1.liv
  unfold ixP at p2
  split at p2
  · rename_i l k
    split at p2
    · rename_i ws es
      split at p2
      · rename_i old hold
        rw [R.toS_ok] at p2
        cases r2
        cases rx with
        | @loc ad l q =>
          obtain ⟨zs, hz, rz⟩ := S2.obj _ ad _ q es
          obtain ⟨vo, hvo, ro⟩ := atI_rep rz hold
          refine ⟨ad, zs, k, vo, rfl, rfl, hK ▸ (.inl (.inl hz)), hvo, ?_⟩
          refine ⟨ρ2, s2, env, re2, S2, PostS.bind p2 fun w s4 H4 ρ4 vw hw e4 S4 r4 p4 => ?_⟩
          have re4 := re2.evo e4 S2.liv
          refine hf H4 ρ4 s4 vo vw old w _ S4 (ro.evo e4 S2.liv) r4 (PostS.bind p4 fun z s5 H5 ρ5 vz hz5 e5 S5 r5 p5 => ?_)
          have q5 : ρ5.pl[l]? = some ad := e5.pre _ _ (e4.pre _ _ q)
          unfold setI at p5
          simp only at p5
          split at p5
          · rename_i ws' es'
            split at p5
            · rename_i j hj
              rw [R.toS_ok] at p5
              obtain ⟨zs', hz', rz'⟩ := S5.obj _ ad _ q5 es'
              obtain ⟨ev, S6⟩ := lst_write S5 q5 es' (rz'.set r5 j)
              exact ⟨ad, zs', _, j, rfl, rfl, hz', by rw [rz'.length]; exact hj, p5 _ ρ5 σ ev S6 ((re4.evo e5 S4.liv).evo ev S5.liv)⟩
            · exact p5.elim
          · exact p5.elim
      · exact p2.elim
    · exact p2.elim
  · exact p2.elim
end
end
end ML

/-! ML14: tools for the plain side: answers by what the arguments tell, loops, comprehensions, equality of told values -/
namespace ML
open PySem L2
noncomputable section
/-! ### lists made by a def, given as values -/
theorem mapO_imp {f g : W → Option W} (h : ∀ w w', f w = some w' → g w = some w') : ∀ {ws ws' : List W}, mapO f ws = some ws' → mapO g ws = some ws'
  | [], _, e => e
  | w :: ws, ws', e => by
    unfold mapO at e ⊢
    split at e
    · rename_i a b e1 e2
      rw [h _ _ e1, mapO_imp h e2]
      exact e
    · cases e
theorem fz_succ {n : Nat} {s : Sto} : ∀ (k : Nat) (w w' : W), fz n s k w = some w' → fz n s (k + 1) w = some w'
  | 0, w, w', e => by cases e
  | k + 1, w, w', e => by
    have ih := fz_succ (n := n) (s := s) k
    cases w with
    | tup ws =>
      simp only [fz, Option.map_eq_some_iff] at e ⊢
      obtain ⟨a, e, r⟩ := e
      exact ⟨a, mapO_imp ih e, r⟩
    | fl ws =>
      simp only [fz, Option.map_eq_some_iff] at e ⊢
      obtain ⟨a, e, r⟩ := e
      exact ⟨a, mapO_imp ih e, r⟩
    | kl ws =>
      simp only [fz, Option.map_eq_some_iff] at e ⊢
      obtain ⟨a, e, r⟩ := e
      exact ⟨a, mapO_imp ih e, r⟩
    | loc l =>
      simp only [fz] at e ⊢
      split at e
      · rename_i h
        rw [if_pos h]; exact e
      · rename_i h
        rw [if_neg h]
        split at e
        · rename_i ws es
          simp only [es, Option.map_eq_some_iff] at e ⊢
          obtain ⟨a, e, r⟩ := e
          exact ⟨a, mapO_imp ih e, r⟩
        · cases e
    | _ => exact e
theorem fz_le {n : Nat} {s : Sto} {k m : Nat} {w w' : W} (h : fz n s k w = some w') (le : k ≤ m) : fz n s m w = some w' := by
  induction le with
  | refl => exact h
  | step _ ih => exact fz_succ _ _ _ ih
/-- given as a value -/
def Fzs (n : Nat) (s : Sto) (w w' : W) : Prop := ∃ k, fz n s k w = some w'
def FzL (n : Nat) (s : Sto) (ws ws' : List W) : Prop := ∃ k, mapO (fz n s k) ws = some ws'
theorem FzL.nil {n : Nat} {s : Sto} : FzL n s [] [] := ⟨0, rfl⟩
theorem FzL.cons {n : Nat} {s : Sto} {w w' : W} {ws ws' : List W} (h : Fzs n s w w') (r : FzL n s ws ws') : FzL n s (w :: ws) (w' :: ws') := by
  obtain ⟨k, h⟩ := h
  obtain ⟨m, r⟩ := r
  refine ⟨max k m, ?_⟩
  unfold mapO
  rw [fz_le h (Nat.le_max_left ..), mapO_imp (fun _ _ q => fz_le q (Nat.le_max_right k m)) r]
theorem Fzs.tup {n : Nat} {s : Sto} {ws ws' : List W} (h : FzL n s ws ws') : Fzs n s (.tup ws) (.tup ws') := by
  obtain ⟨k, h⟩ := h
  exact ⟨k + 1, by simp only [fz, h, Option.map_some]⟩
theorem Fzs.fl {n : Nat} {s : Sto} {ws ws' : List W} (h : FzL n s ws ws') : Fzs n s (.fl ws) (.fl ws') := by
  obtain ⟨k, h⟩ := h
  exact ⟨k + 1, by simp only [fz, h, Option.map_some]⟩
theorem Fzs.kl {n : Nat} {s : Sto} {ws ws' : List W} (h : FzL n s ws ws') : Fzs n s (.kl ws) (.kl ws') := by
  obtain ⟨k, h⟩ := h
  exact ⟨k + 1, by simp only [fz, h, Option.map_some]⟩
theorem Fzs.loc {n : Nat} {s : Sto} {l : Nat} {ws ws' : List W} (hl : n ≤ l) (e : s[l]? = some (.lst ws)) (h : FzL n s ws ws') : Fzs n s (.loc l) (.fl ws') := by
  obtain ⟨k, h⟩ := h
  exact ⟨k + 1, by simp only [fz, if_neg (Nat.not_lt.mpr hl), e, h, Option.map_some]⟩
/-- without places -/
inductive Cl : W → Prop
  | non : Cl .non
  | bl (b : Bool) : Cl (.bl b)
  | int (i : Int) : Cl (.int i)
  | str (x : Str) : Cl (.str x)
  | tup {ws : List W} (h : ∀ w ∈ ws, Cl w) : Cl (.tup ws)
  | fl {ws : List W} (h : ∀ w ∈ ws, Cl w) : Cl (.fl ws)
  | kl {ws : List W} (h : ∀ w ∈ ws, Cl w) : Cl (.kl ws)
theorem FzL.all {n : Nat} {s : Sto} : ∀ {ws : List W}, (∀ w ∈ ws, Fzs n s w w) → FzL n s ws ws
  | [], _ => .nil
  | w :: ws, h => .cons (h w List.mem_cons_self) (FzL.all fun x hx => h x (List.mem_cons_of_mem _ hx))
theorem Cl.fzs {n : Nat} {s : Sto} {w : W} (h : Cl w) : Fzs n s w w := by
  induction h with
  | non => exact ⟨1, rfl⟩
  | bl b => exact ⟨1, rfl⟩
  | int b => exact ⟨1, rfl⟩
  | str b => exact ⟨1, rfl⟩
  | tup _ ih => exact .tup (FzL.all ih)
  | fl _ ih => exact .fl (FzL.all ih)
  | kl _ ih => exact .kl (FzL.all ih)
theorem Cl.map {α : Type} {f : α → W} {xs : List α} (h : ∀ x, Cl (f x)) : ∀ w ∈ xs.map f, Cl w := fun w hw => by
  obtain ⟨x, _, rfl⟩ := List.mem_map.mp hw
  exact h x
theorem Cl.map' {α : Type} {f : α → W} {xs : List α} (h : ∀ x ∈ xs, Cl (f x)) : ∀ w ∈ xs.map f, Cl w := fun w hw => by
  obtain ⟨x, hx, rfl⟩ := List.mem_map.mp hw
  exact h x hx
/-- a list with closed items at a place of the def's own -/
theorem Fzs.locC {n : Nat} {s : Sto} {l : Nat} {ws : List W} (hl : n ≤ l) (e : s[l]? = some (.lst ws)) (h : ∀ w ∈ ws, Cl w) : Fzs n s (.loc l) (.fl ws) :=
  .loc hl e (FzL.all fun w hw => (h w hw).fzs)

/-! ### answers by what the arguments tell -/
open Classical in
def pur {α : Type} (Enc : List W → Sto → α → Prop) (out : α → W) (ws : List W) (st : Sto) : R W :=
  if h : ∃ a, Enc ws st a then .ok (out h.choose) st else .no
theorem pur_ok {α : Type} {Enc : List W → Sto → α → Prop} {out : α → W} {ws : List W} {st : Sto} {a : α} (h : Enc ws st a) (u : ∀ b, Enc ws st b → out b = out a) : pur Enc out ws st = .ok (out a) st := by
  have q : ∃ a, Enc ws st a := ⟨a, h⟩
  unfold pur
  rw [dif_pos q, u _ q.choose_spec]
theorem gz_pur {α : Type} {n : Nat} {d : List W → Sto → R W} {Enc : List W → Sto → α → Prop} {out : α → W} (h : ∀ ws st a, Enc ws st a → ∃ w0 s2, d ws st = .ok w0 (st ++ s2) ∧ Fzs st.length (st ++ s2) w0 (out a)) : Gz n d (pur Enc out) := by
  refine Gz.pure (fun ws st w st' _ _ e => ?_) (fun ws st c s e => ?_)
  · unfold pur at e
    split at e
    · rename_i q
      cases e
      obtain ⟨w0, s2, h1, k, h2⟩ := h ws st _ q.choose_spec
      exact ⟨rfl, w0, s2, k, h1, h2⟩
    · cases e
  · unfold pur at e
    split at e <;> cases e
/-- the arguments are enc a -/
def pureF {α : Type} (enc : α → List W) (P : α → Prop) (out : α → W) : List W → Sto → R W := pur (fun ws _ a => ws = enc a ∧ P a) out
theorem pureF_ok {α : Type} {enc : α → List W} {P : α → Prop} {out : α → W} {st : Sto} (inj : ∀ a b, enc a = enc b → a = b) {a : α} (h : P a) : pureF enc P out (enc a) st = .ok (out a) st :=
  pur_ok ⟨rfl, h⟩ fun b hb => by rw [inj _ _ hb.1]
theorem gz_pureF {α : Type} {n : Nat} {d : List W → Sto → R W} {enc : α → List W} {P : α → Prop} {out : α → W} (h : ∀ a st, P a → ∃ w0 s2, d (enc a) st = .ok w0 (st ++ s2) ∧ Fzs st.length (st ++ s2) w0 (out a)) : Gz n d (pureF enc P out) :=
  gz_pur fun ws st a q => by rw [q.1]; exact h a st q.2
/-- the answer stays in the store as it was -/
theorem gz_pureF0 {α : Type} {n : Nat} {d : List W → Sto → R W} {enc : α → List W} {P : α → Prop} {out : α → W} (cl : ∀ a, P a → Cl (out a)) (h : ∀ a st, P a → ∃ s2, d (enc a) st = .ok (out a) (st ++ s2)) : Gz n d (pureF enc P out) :=
  gz_pureF fun a st p => by obtain ⟨s2, e⟩ := h a st p; exact ⟨_, s2, e, (cl a p).fzs⟩

/-! ### loops -/
/-- behind a loop's body -/
def lpQ (I : En → Sto → Prop) (Q : SR → Prop) : SR → Prop
  | .nx e s => I e s
  | .ct e s => I e s
  | .bk e s => Q (.nx e s)
  | .rt w s => Q (.rt w s)
  | .ex c s => Q (.ex c s)
  | .no => False
theorem lp_q {b k : Sx} {env : En} {st : Sto} {Q : SR → Prop} (h : lpQ (fun e s => Q (k e s)) Q (b env st)) : Q (lpS b k env st) := by
  unfold lpS
  cases e : b env st <;> rw [e] at h <;> first | exact h.elim | exact h
theorem lpQ_imp {I J : En → Sto → Prop} {Q : SR → Prop} {r : SR} (h : lpQ I Q r) (k : ∀ e s, I e s → J e s) : lpQ J Q r := by
  cases r <;> first | exact k _ _ h | exact h
/-- the target takes x -/
def tkQ (g : W → En → Sto → R En) (w : W) (env : En) (st : Sto) (K : En → Sto → Prop) : Prop := match g w env st with
  | .ok e s => K e s
  | _ => False
theorem forL_wp {α : Type} {g : W → En → Sto → R En} {b : Sx} {enc : α → W} (I : List α → En → Sto → Prop) {Q : SR → Prop}
    (step : ∀ x xs env st, I (x :: xs) env st → tkQ g (enc x) env st fun e s => lpQ (I xs) Q (b e s)) (done : ∀ env st, I [] env st → Q (.nx env st)) :
    ∀ (xs : List α) (env : En) (st : Sto), I xs env st → Q (forL g b (xs.map enc) env st)
  | [], env, st, h => done env st h
  | x :: xs, env, st, h => by
    have q := step x xs env st h
    unfold tkQ at q
    rw [List.map_cons]
    unfold forL
    split at q
    · rename_i e s he
      rw [he, R.toS_ok]
      exact lp_q (lpQ_imp q fun e s hi => forL_wp I step done xs e s hi)
    · exact q.elim
theorem rng_map (lo : Int) (n : Nat) : rngL lo n = (List.range' 0 n).map fun (i : Nat) => W.int (lo + (i : Int)) := by
  unfold rngL
  rw [List.range_eq_range']
theorem forR_wp {g : W → En → Sto → R En} {b : Sx} {lo : Int} {n : Nat} (I : Nat → En → Sto → Prop) {Q : SR → Prop}
    (step : ∀ i env st, i < n → I i env st → tkQ g (.int (lo + (i : Int))) env st fun e s => lpQ (I (i + 1)) Q (b e s)) (done : ∀ env st, I n env st → Q (.nx env st)) {env : En} {st : Sto} (h : I 0 env st) :
    Q (forL g b (rngL lo n) env st) := by
  rw [rng_map]
  refine forL_wp (fun xs env st => ∃ i, xs = List.range' i (n - i) ∧ i ≤ n ∧ I i env st) (fun x xs env st hi => ?_) (fun env st hi => ?_) _ env st ⟨0, by simp, by omega, h⟩
  · obtain ⟨i, e, hn, hi⟩ := hi
    obtain ⟨m, hm⟩ : ∃ m, n - i = m + 1 := by
      cases hm : n - i with
      | zero => rw [hm] at e; cases e
      | succ m => exact ⟨m, rfl⟩
    rw [hm, List.range'_succ] at e
    injection e with e1 e2
    subst e1
    have q := step x env st (by omega) hi
    unfold tkQ at q ⊢
    split at q
    · rename_i e s he
      exact lpQ_imp q fun e s hi => ⟨x + 1, by rw [e2, show n - (x + 1) = m by omega], by omega, hi⟩
    · exact q.elim
  · obtain ⟨i, e, hn, hi⟩ := hi
    have : n - i = 0 := by
      cases hm : n - i with
      | zero => rfl
      | succ m => rw [hm, List.range'_succ] at e; cases e
    have : i = n := by omega
    subst this
    exact done env st hi
/-- over a list with a place -/
theorem forF_wp {α : Type} {f : Nat → Sto → Option (Option W)} {g : W → En → Sto → R En} {b : Sx} {enc : α → W} {all : List α} (I : Nat → En → Sto → Prop) {Q : SR → Prop}
    (src : ∀ i env st, i ≤ all.length → I i env st → f i st = some (all[i]?.map enc))
    (step : ∀ i x env st, all[i]? = some x → I i env st → tkQ g (enc x) env st fun e s => lpQ (I (i + 1)) Q (b e s)) (done : ∀ env st, I all.length env st → Q (.nx env st)) :
    ∀ (n i : Nat) (env : En) (st : Sto), all.length < n + i → i ≤ all.length → I i env st → Q (forF f g b n i env st) := by
  intro n
  induction n with
  | zero => intro i env st h1 h2; omega
  | succ n ih =>
    intro i env st h1 h2 hi
    unfold forF
    rw [src i env st h2 hi]
    by_cases hl : i < all.length
    · have e2 : all[i]? = some all[i] := by simp [hl]
      simp only [e2, Option.map_some]
      have q := step i _ env st e2 hi
      unfold tkQ at q
      split at q
      · rename_i e s he
        rw [he, R.toS_ok]
        exact lp_q (lpQ_imp q fun e s hi => ih (i + 1) e s (by omega) (by omega) hi)
      · exact q.elim
    · have e2 : all[i]? = none := List.getElem?_eq_none_iff.mpr (by omega)
      simp only [e2, Option.map_none]
      have : i = all.length := by omega
      subst this
      exact done env st hi

/-! ### comprehensions -/
/-- over known items: what is kept, what is made; the store stays -/
theorem lcL_map {α : Type} {g : W → En → Option En} {t : Bx} {e : Ex} {env : En} {enc : α → W} {p : α → Bool} {f : α → W} {st : Sto} : ∀ xs : List α,
    (∀ x ∈ xs, ∃ env1, g (enc x) env = some env1 ∧ t env1 st = .ok (p x) st ∧ (p x = true → e env1 st = .ok (f x) st)) → lcL g t e env (xs.map enc) st = .ok ((xs.filter p).map f) st
  | [], _ => rfl
  | x :: xs, h => by
    obtain ⟨env1, h1, h2, h3⟩ := h x (by simp)
    have ih := lcL_map (t := t) (e := e) (f := f) xs fun y hy => h y (by simp [hy])
    simp only [List.map_cons, lcL, h1, h2, R.bind_ok]
    by_cases hp : p x = true
    · simp only [hp, if_true, h3 hp, R.bind_ok, ih, List.filter_cons_of_pos, List.map_cons]
    · have hp : p x = false := by simpa using hp
      simp only [hp, Bool.false_eq_true, if_false, ih, List.filter_cons_of_neg, not_false_eq_true]
/-- without a test -/
theorem lcL_map1 {α : Type} {g : W → En → Option En} {e : Ex} {env : En} {enc : α → W} {f : α → W} {st : Sto} (xs : List α)
    (h : ∀ x ∈ xs, ∃ env1, g (enc x) env = some env1 ∧ e env1 st = .ok (f x) st) : lcL g yesB e env (xs.map enc) st = .ok (xs.map f) st := by
  have q := lcL_map (t := yesB) (e := e) (p := fun _ => true) (f := f) xs fun x hx => let ⟨e1, a, b⟩ := h x hx; ⟨e1, a, rfl, fun _ => b⟩
  rwa [List.filter_eq_self.mpr (fun _ _ => rfl)] at q
theorem lcL_rng {g : W → En → Option En} {t : Bx} {e : Ex} {env : En} {lo : Int} {n : Nat} {p : Nat → Bool} {f : Nat → W} {st : Sto}
    (h : ∀ i < n, ∃ env1, g (.int (lo + (i : Int))) env = some env1 ∧ t env1 st = .ok (p i) st ∧ (p i = true → e env1 st = .ok (f i) st)) : lcL g t e env (rngL lo n) st = .ok (((List.range n).filter p).map f) st := by
  unfold rngL
  exact lcL_map (enc := fun (i : Nat) => W.int (lo + (i : Int))) (List.range n) fun x hx => h x (List.mem_range.mp hx)
theorem lcL_rng1 {g : W → En → Option En} {e : Ex} {env : En} {lo : Int} {n : Nat} {f : Nat → W} {st : Sto}
    (h : ∀ i < n, ∃ env1, g (.int (lo + (i : Int))) env = some env1 ∧ e env1 st = .ok (f i) st) : lcL g yesB e env (rngL lo n) st = .ok ((List.range n).map f) st := by
  unfold rngL
  exact lcL_map1 (enc := fun (i : Nat) => W.int (lo + (i : Int))) (List.range n) fun x hx => h x (List.mem_range.mp hx)
/-- a list that stays, told by items -/
theorem lcE_fl {vs : List Nat} {m : Ex} {g : W → En → Option En} {t : Bx} {e : Ex} {env : En} {s0 st : Sto} {ws ys : List W} (hm : m env s0 = .ok (.fl ws) st) (hl : ws.length < 10000000) (h : lcL g t e (wipeE env vs) ws st = .ok ys st) :
    lcE vs (sqI m) g t e env s0 = .ok (.fl ys) st := by
  unfold lcE lcS sqI
  rw [hm, R.bind_ok]
  simp only [R.bind_ok]
  rw [if_pos (ck_iff.mpr hl), h]
  rfl
theorem lcE_kl {vs : List Nat} {m : Ex} {g : W → En → Option En} {t : Bx} {e : Ex} {env : En} {s0 st : Sto} {ws ys : List W} (hm : m env s0 = .ok (.kl ws) st) (hl : ws.length < 10000000) (h : lcL g t e (wipeE env vs) ws st = .ok ys st) :
    lcE vs (sqI m) g t e env s0 = .ok (.fl ys) st := by
  unfold lcE lcS sqI
  rw [hm, R.bind_ok]
  simp only [R.bind_ok]
  rw [if_pos (ck_iff.mpr hl), h]
  rfl
theorem lcE_tup {vs : List Nat} {m : Ex} {g : W → En → Option En} {t : Bx} {e : Ex} {env : En} {s0 st : Sto} {ws ys : List W} (hm : m env s0 = .ok (.tup ws) st) (hl : ws.length < 10000000) (h : lcL g t e (wipeE env vs) ws st = .ok ys st) :
    lcE vs (sqI m) g t e env s0 = .ok (.fl ys) st := by
  unfold lcE lcS sqI
  rw [hm, R.bind_ok]
  simp only [R.bind_ok]
  rw [if_pos (ck_iff.mpr hl), h]
  rfl
/-- any source of known items -/
theorem lcE_src {vs : List Nat} {m : Ix} {g : W → En → Option En} {t : Bx} {e : Ex} {env : En} {s0 st : Sto} {ws ys : List W} (hm : m env s0 = .ok (.st ws) st) (hl : ws.length < 10000000) (h : lcL g t e (wipeE env vs) ws st = .ok ys st) :
    lcE vs m g t e env s0 = .ok (.fl ys) st := by
  unfold lcE lcS
  rw [hm, R.bind_ok]
  simp only
  rw [if_pos (ck_iff.mpr hl), h]
  rfl
theorem lcQ_src {vs : List Nat} {m : Ix} {g : W → En → Option En} {t : Bx} {e : Ex} {env : En} {s0 st : Sto} {ws ys : List W} (hm : m env s0 = .ok (.st ws) st) (hl : ws.length < 10000000) (h : lcL g t e (wipeE env vs) ws st = .ok ys st) :
    lcQ vs m g t e env s0 = .ok (.loc st.length) (st ++ [.lst ys]) := by
  unfold lcQ lcS
  rw [hm, R.bind_ok]
  simp only
  rw [if_pos (ck_iff.mpr hl), h]
  rfl
theorem zipW_map {α β : Type} (f : α → W) (g : β → W) (xs : List α) (ys : List β) : zipW (xs.map f) (ys.map g) = (xs.zip ys).map fun p => .tup [f p.1, g p.2] := by
  unfold zipW
  rw [List.zipWith_map, List.zip_eq_zipWith, List.map_zipWith]
theorem zpI_fl {m : Ax} {env : En} {s0 st : Sto} {xs ys : List W} (h : m env s0 = .ok [.fl xs, .fl ys] st) : zpI m env s0 = .ok (.st (zipW xs ys)) st := by
  simp [zpI, h, zpF, lstK, lstOf, valW]

theorem ixN_lt {n j : Nat} (h : j < n) : ixN n (j : Int) = some j := by
  unfold ixN
  rw [if_pos (by omega), if_pos (by omega)]; simp
theorem atI_app {α β : Type} (f : β → α) (a : List β) (x : α) (b : List α) : atI (a.map f ++ x :: b) (a.length : Int) = some x := atI_nat (by simp)
theorem set_app {α β : Type} (f : β → α) (a : List β) (x y : α) (b : List α) : (a.map f ++ x :: b).set a.length y = a.map f ++ y :: b := by
  have := List.set_append_right (s := a.map f) (t := x :: b) a.length y (by simp)
  simpa using this
theorem st_top (s : Sto) (o : O) : (s ++ [o])[s.length]? = some o := by simp
theorem st_set (s : Sto) (o u : O) : (s ++ [o]).set s.length u = s ++ [u] := by simp
theorem rep_flat {α : Type} (n : Nat) (x : α) : (List.replicate n [x]).flatten = List.replicate n x := by
  induction n with
  | zero => rfl
  | succ n ih => rw [List.replicate_succ, List.flatten_cons, ih, List.replicate_succ]; rfl
theorem atI_getD {α β : Type} (f : β → α) (xs : List β) (d : β) {i : Nat} (h : i < xs.length) : atI (xs.map f) (i : Int) = some (f (xs.getD i d)) := atI_nat (by simp [h, List.getD])
theorem range_zip {α β γ : Type} (g : α → β → γ) (a0 : α) (b0 : β) (xs : List α) (ys : List β) (h : ys.length = xs.length) : (List.range xs.length).map (fun i => g (xs.getD i a0) (ys.getD i b0)) = (xs.zip ys).map fun p => g p.1 p.2 := by
  induction xs generalizing ys with
  | nil => rfl
  | cons x xs ih =>
    cases ys with
    | nil => cases h
    | cons y ys =>
      rw [List.length_cons, List.range_succ_eq_map, List.map_cons, List.map_map, List.zip_cons_cons, List.map_cons, ← ih ys (by simpa using h)]
      rfl
/-! ### ints of a list -/
theorem intsOf_mapf {α : Type} (f : α → Int) (xs : List α) : intsOf (xs.map fun x => W.int (f x)) = some (xs.map f) := by
  rw [← intsOf_map (xs.map f), List.map_map]; rfl
theorem blsOf_mapf {α : Type} (f : α → Bool) (xs : List α) : blsOf (xs.map fun x => W.bl (f x)) = some (xs.map f) := by
  rw [← blsOf_map (xs.map f), List.map_map]; rfl
theorem intsOf_mapc {α : Type} (f : α → Int) (xs : List α) : intsOf (xs.map (W.int ∘ f)) = some (xs.map f) := intsOf_mapf f xs
theorem blsOf_mapc {α : Type} (f : α → Bool) (xs : List α) : blsOf (xs.map (W.bl ∘ f)) = some (xs.map f) := blsOf_mapf f xs
theorem maxL_eq (x : Int) (xs : List Int) : maxL (x :: xs) = xs.foldl max x := by
  induction xs generalizing x with
  | nil => rfl
  | cons y ys ih =>
    show max x (maxL (y :: ys)) = (ys.foldl max (max x y))
    rw [ih]
    clear ih
    induction ys generalizing x y with
    | nil => rfl
    | cons z zs ih => simp only [List.foldl_cons]; rw [ih]; congr 1; omega

/-! ### equality of values told by types -/
/-- how a type is told by values, so that == is equality -/
structure Cod (α : Type) [DecidableEq α] where
  w : α → W
  d : α → PyData
  n : Nat
  cl : ∀ a, Cl (w a)
  dat : ∀ a, datW (w a) = some (d a)
  lay : ∀ a, PyData.canLay0 (d a) = true
  dep : ∀ a, (d a).depth ≤ n
  eqv : ∀ a b, PyData.eqv (d a) (d b) = decide (a = b)
theorem datS_tup (s : Sto) (n : Nat) (ws : List W) : datS s n (.tup ws) = datW (.tup ws) := by cases n <;> simp [datS, lstOf]
theorem datS_cl {s : Sto} {w : W} (h : Cl w) (n : Nat) : datS s n w = datW w := by
  induction h generalizing n with
  | @fl ws h ih =>
    cases n with
    | zero => rfl
    | succ n =>
      have key : ∀ ws : List W, (∀ w ∈ ws, ∀ n, datS s n w = datW w) → ws.mapM (datS s n) = datL ws := by
        intro ws
        induction ws with
        | nil => intro _; rfl
        | cons w ws ih =>
          intro h
          rw [List.mapM_cons, h w (by simp) n, ih fun x hx => h x (by simp [hx])]
          conv => rhs; unfold datL
          cases datW w <;> cases datL ws <;> rfl
      unfold datS
      simp only [lstOf]
      rw [key ws fun w hw n => ih w hw n]
      simp only [datW]
  | _ => cases n <;> simp [datS, lstOf]
section
variable {α β : Type} [DecidableEq α] [DecidableEq β]
theorem Cod.eq (c : Cod α) (hn : c.n ≤ 64) (a b : α) (s : Sto) : eqW (c.w a) (c.w b) s = .ok (.bl (decide (a = b))) s := by
  have sh : ∀ a, SeqAt.shaped (c.d a) = true := fun a => by
    unfold SeqAt.shaped
    rw [Bool.and_eq_true]
    exact ⟨c.lay a, decide_eq_true (Nat.le_trans (c.dep a) hn)⟩
  simp only [eqW, datS_cl (c.cl _), c.dat, sh, c.eqv, and_self, if_true]
theorem Cod.ne (c : Cod α) (hn : c.n ≤ 64) (a b : α) (s : Sto) : neW (c.w a) (c.w b) s = .ok (.bl (!decide (a = b))) s := by
  have sh : ∀ a, SeqAt.shaped (c.d a) = true := fun a => by
    unfold SeqAt.shaped
    rw [Bool.and_eq_true]
    exact ⟨c.lay a, decide_eq_true (Nat.le_trans (c.dep a) hn)⟩
  simp only [neW, datS_cl (c.cl _), c.dat, sh, c.eqv, and_self, if_true]
theorem datL_map (c : Cod α) : ∀ xs : List α, datL (xs.map c.w) = some (xs.map c.d)
  | [] => rfl
  | x :: xs => by simp [datL, c.dat x, datL_map c xs]
theorem lay_mapC (c : Cod α) : ∀ xs : List α, PyData.canLayAll0 (xs.map c.d) = true
  | [] => by simp [PyData.canLayAll0]
  | x :: xs => by simp [PyData.canLayAll0, c.lay x, lay_mapC c xs]
theorem dep_mapC (c : Cod α) : ∀ xs : List α, PyData.depthAll (xs.map c.d) ≤ c.n
  | [] => by simp [PyData.depthAll]
  | x :: xs => by
    have := c.dep x
    have := dep_mapC c xs
    simp only [List.map_cons, PyData.depthAll]
    omega
theorem eqv_mapC (c : Cod α) : ∀ xs ys : List α, PyData.eqvAll (xs.map c.d) (ys.map c.d) = decide (xs = ys)
  | [], [] => by simp [PyData.eqvAll]
  | [], _ :: _ => by simp [PyData.eqvAll]
  | _ :: _, [] => by simp [PyData.eqvAll]
  | x :: xs, y :: ys => by
    simp only [List.map_cons, PyData.eqvAll, c.eqv, eqv_mapC c xs ys]
    by_cases e : x = y <;> simp [e]
def cInt : Cod Int where
  w := .int
  d := .int
  n := 0
  cl := .int
  dat := fun _ => rfl
  lay := fun _ => by simp [PyData.canLay0]
  dep := fun _ => by simp [PyData.depth]
  eqv := fun a b => by simp only [PyData.eqv]; rfl
def cBl : Cod Bool where
  w := .bl
  d := .bool
  n := 0
  cl := .bl
  dat := fun _ => rfl
  lay := fun _ => by simp [PyData.canLay0]
  dep := fun _ => by simp [PyData.depth]
  eqv := fun a b => by simp only [PyData.eqv]; cases a <;> cases b <;> rfl
def cLst (c : Cod α) : Cod (List α) where
  w := fun xs => .fl (xs.map c.w)
  d := fun xs => .list (xs.map c.d)
  n := c.n + 1
  cl := fun xs => .fl (Cl.map c.cl)
  dat := fun xs => by simp only [datW, datL_map, Option.map_some]
  lay := fun xs => by simp only [PyData.canLay0]; exact lay_mapC c xs
  dep := fun xs => by have := dep_mapC c xs; simp only [PyData.depth]; omega
  eqv := fun xs ys => by simp only [PyData.eqv]; exact eqv_mapC c xs ys
def cTup (c : Cod α) : Cod (List α) where
  w := fun xs => .tup (xs.map c.w)
  d := fun xs => .tuple (xs.map c.d)
  n := c.n + 1
  cl := fun xs => .tup (Cl.map c.cl)
  dat := fun xs => by simp only [datW, datL_map, Option.map_some]
  lay := fun xs => by simp only [PyData.canLay0]; exact lay_mapC c xs
  dep := fun xs => by have := dep_mapC c xs; simp only [PyData.depth]; omega
  eqv := fun xs ys => by simp only [PyData.eqv]; exact eqv_mapC c xs ys
/-- the items of a tuple of fixed length -/
structure CodL (α : Type) [DecidableEq α] where
  w : α → List W
  d : α → List PyData
  n : Nat
  cl : ∀ a, ∀ x ∈ w a, Cl x
  dat : ∀ a, datL (w a) = some (d a)
  lay : ∀ a, PyData.canLayAll0 (d a) = true
  dep : ∀ a, PyData.depthAll (d a) ≤ n
  eqv : ∀ a b, PyData.eqvAll (d a) (d b) = decide (a = b)
def cOne (c : Cod α) : CodL α where
  w := fun a => [c.w a]
  d := fun a => [c.d a]
  n := c.n
  cl := fun a x h => by rw [List.mem_singleton.mp h]; exact c.cl a
  dat := fun a => by simp [datL, c.dat]
  lay := fun a => by simp [PyData.canLayAll0, c.lay]
  dep := fun a => by have := c.dep a; simp [PyData.depthAll]; omega
  eqv := fun a b => by simp [PyData.eqvAll, c.eqv]
def cCons (c : Cod α) (r : CodL β) : CodL (α × β) where
  w := fun a => c.w a.1 :: r.w a.2
  d := fun a => c.d a.1 :: r.d a.2
  n := max c.n r.n
  cl := fun a x h => by
    rcases List.mem_cons.mp h with e | h
    · rw [e]; exact c.cl _
    · exact r.cl _ x h
  dat := fun a => by simp [datL, c.dat, r.dat]
  lay := fun a => by simp [PyData.canLayAll0, c.lay, r.lay]
  dep := fun a => by have := c.dep a.1; have := r.dep a.2; simp only [PyData.depthAll]; omega
  eqv := fun a b => by
    simp only [PyData.eqvAll, c.eqv, r.eqv]
    obtain ⟨a1, a2⟩ := a
    obtain ⟨b1, b2⟩ := b
    by_cases e1 : a1 = b1 <;> by_cases e2 : a2 = b2 <;> simp [e1, e2]
def cTp (r : CodL α) : Cod α where
  w := fun a => .tup (r.w a)
  d := fun a => .tuple (r.d a)
  n := r.n + 1
  cl := fun a => .tup (r.cl a)
  dat := fun a => by simp only [datW, r.dat, Option.map_some]
  lay := fun a => by simp only [PyData.canLay0]; exact r.lay a
  dep := fun a => by have := r.dep a; simp only [PyData.depth]; omega
  eqv := fun a b => by simp only [PyData.eqv]; exact r.eqv a b
end
theorem eq_str (x y : Str) (s : Sto) (hx : PyData.strOk x = true) (hy : PyData.strOk y = true) : eqW (.str x) (.str y) s = .ok (.bl (x == y)) s := by
  simp [eqW, datS, lstOf, datW, SeqAt.shaped, PyData.canLay0, PyData.depth, PyData.eqv, hx, hy]
theorem ne_str (x y : Str) (s : Sto) (hx : PyData.strOk x = true) (hy : PyData.strOk y = true) : neW (.str x) (.str y) s = .ok (.bl (!(x == y))) s := by
  simp [neW, datS, lstOf, datW, SeqAt.shaped, PyData.canLay0, PyData.depth, PyData.eqv, hx, hy]
/-- equality of two values of different kinds -/
theorem eq_not {x y : W} {d e : PyData} {s : Sto} (hx : datW x = some d) (hy : datW y = some e) (cx : Cl x) (cy : Cl y) (sx : SeqAt.shaped d = true) (sy : SeqAt.shaped e = true) : eqW x y s = .ok (.bl (PyData.eqv d e)) s := by
  simp only [eqW, datS_cl cx, datS_cl cy, hx, hy, sx, sy, and_self, if_true]
theorem ne_not {x y : W} {d e : PyData} {s : Sto} (hx : datW x = some d) (hy : datW y = some e) (cx : Cl x) (cy : Cl y) (sx : SeqAt.shaped d = true) (sy : SeqAt.shaped e = true) : neW x y s = .ok (.bl (!PyData.eqv d e)) s := by
  simp only [neW, datS_cl cx, datS_cl cy, hx, hy, sx, sy, and_self, if_true]
end
end ML

/-! ML15: a sum of lists with a place; lists of the def's own -/
namespace ML
open PySem L2
noncomputable section
def addLW (x y : W) (s : Sto) : R W := match lstOf s x, lstOf s y with
  | some xs, some ys => if ck (xs.length + ys.length ≤ 10000000) = true then .ok (.loc s.length) (s ++ [.lst (xs ++ ys)]) else .no
  | _, _ => .no
theorem om_addL {C : MC} {E : XK} : OpM C E (rAddU C.K) addLW := by
  intro H ρ st v u x y Q S rx ry p
  unfold addLW at p
  split at p
  · rename_i xs ys e1 e2
    obtain ⟨a, vs, rfl, h1, r1⟩ := lstOf_rep S rx e1
    obtain ⟨b, us, rfl, h2, r2⟩ := lstOf_rep S ry e2
    split at p
    · rename_i h
      refine .inr (.inr ⟨_, _, _, _, rfl, rfl, h1, h2, by rw [r1.length, r2.length]; exact szL (ck_iff.mp h), fun q hq => ?_⟩)
      exact p _ (ρ.add q) _ (Evo.push hq) (lst_push S hq (r1.append r2)) (loc_new S)
    · exact p.elim
  · exact p.elim
theorem seqOf_fl (s : Sto) (ws : List W) : seqOf s (.fl ws) = some ws := rfl
theorem seqOf_kl (s : Sto) (ws : List W) : seqOf s (.kl ws) = some ws := rfl
theorem seqOf_tup (s : Sto) (ws : List W) : seqOf s (.tup ws) = some ws := rfl
theorem lstOf_fl (s : Sto) (ws : List W) : lstOf s (.fl ws) = some ws := rfl
theorem lstK_fl (s : Sto) (ws : List W) : lstK s (.fl ws) = some ws := rfl
theorem lstK_kl (s : Sto) (ws : List W) : lstK s (.kl ws) = some ws := rfl
theorem mx2 (i j : Int) (s : Sto) : maxF [.int i, .int j] s = .ok (.int (max i j)) s := rfl
theorem mn2 (i j : Int) (s : Sto) : minF [.int i, .int j] s = .ok (.int (min i j)) s := rfl
theorem listLF_fl (s : Sto) (ws : List W) : listLF [.fl ws] s = .ok (.loc s.length) (s ++ [.lst ws]) := rfl
theorem listF_fl (s : Sto) (ws : List W) : listF [.fl ws] s = .ok (.fl ws) s := rfl
theorem listF_tup (s : Sto) (ws : List W) : listF [.tup ws] s = .ok (.fl ws) s := rfl
theorem listLF_tup (s : Sto) (ws : List W) : listLF [.tup ws] s = .ok (.loc s.length) (s ++ [.lst ws]) := rfl
theorem tupF_lst {s : Sto} {x : W} {ws : List W} (h : seqOf s x = some ws) : tupF [x] s = .ok (.tup ws) s := by simp [tupF, h]
theorem lenF_lst {s : Sto} {x : W} {ws : List W} (h : seqOf s x = some ws) : lenF [x] s = .ok (.int ws.length) s := by simp [lenF, h]
theorem ixW_lst {s : Sto} {x y : W} {ws : List W} {i : Int} (h : seqOf s x = some ws) (h2 : atI ws i = some y) : ixW x (.int i) s = .ok y s := by simp [ixW, h, h2]
theorem lstOf_top (s : Sto) (ws : List W) : lstOf (s ++ [.lst ws]) (.loc s.length) = some ws := by simp [lstOf]
theorem seqOf_top (s : Sto) (ws : List W) : seqOf (s ++ [.lst ws]) (.loc s.length) = some ws := by simp [seqOf, lstOf]
theorem setI_top (s : Sto) (ws : List W) {k : Int} {j : Nat} (h : ixN ws.length k = some j) (w : W) : setI (.loc s.length) (.int k) w (s ++ [.lst ws]) = .ok () (s ++ [.lst (ws.set j w)]) := by simp [setI, h]
theorem fdiv_ok {i j : Int} {s : Sto} (h1 : 0 < j) (h2 : j < 1073741824) : fdivW (.int i) (.int j) s = .ok (.int (i / j)) s := by
  simp [intW, h1, h2]
theorem mod_ok {i j : Int} {s : Sto} (h1 : 0 < j) : modW (.int i) (.int j) s = .ok (.int (i % j)) s := by
  simp [intW, h1]
theorem mul_okl {i j : Int} {s : Sto} (h1 : -18446744073709551616 < i) (h2 : i < 18446744073709551616) : mulW (.int i) (.int j) s = .ok (.int (i * j)) s := by
  have : mulOk i j = true := by unfold mulOk; rw [ck_iff]; left; omega
  simp [mulW, this]
theorem add_int (i j : Int) (s : Sto) : addW (.int i) (.int j) s = .ok (.int (i + j)) s := rfl
theorem neg_int (i : Int) (s : Sto) : negW (.int i) s = .ok (.int (-i)) s := rfl
theorem int_bl (b : Bool) (s : Sto) : intF [.bl b] s = .ok (.int (if b then 1 else 0)) s := rfl
theorem int_int (i : Int) (s : Sto) : intF [.int i] s = .ok (.int i) s := rfl
theorem sq_nx {a b : Sx} {env e : En} {st s : Sto} (h : a env st = .nx e s) : sqS a b env st = b e s := by unfold sqS; rw [h]; rfl
theorem sq_rt {a b : Sx} {env : En} {st s : Sto} {w : W} (h : a env st = .rt w s) : sqS a b env st = .rt w s := by unfold sqS; rw [h]; rfl
theorem body_of {N : Nat} {m : Sx} {ws : List W} {st s : Sto} {w : W} (h : m (pad N ws) st = .rt w s) : bodyD N m ws st = .ok w s := by unfold bodyD; rw [h]; rfl
/-- x is a list at a place behind st -/
def Own (st s : Sto) (x : W) (ws : List W) : Prop := ∃ s2 l, s = st ++ s2 ∧ x = .loc l ∧ st.length ≤ l ∧ s[l]? = some (.lst ws)
section
variable {st s : Sto} {x : W} {ws : List W}
theorem Own.ext (h : Own st s x ws) : ∃ s2, s = st ++ s2 := let ⟨s2, _, e, _⟩ := h; ⟨s2, e⟩
theorem Own.lst (h : Own st s x ws) : lstOf s x = some ws := by
  obtain ⟨s2, l, rfl, rfl, hl, e⟩ := h
  simp only [lstOf, e]
theorem Own.seq (h : Own st s x ws) : seqOf s x = some ws := by
  obtain ⟨s2, l, rfl, rfl, hl, e⟩ := h
  simp only [seqOf, lstOf, e]
theorem Own.lk (h : Own st s x ws) : lstK s x = some ws := by
  obtain ⟨s2, l, rfl, rfl, hl, e⟩ := h
  simp only [lstK, lstOf, e]
theorem Own.new (s2 : Sto) (ws : List W) : Own st (st ++ s2 ++ [.lst ws]) (.loc (st ++ s2).length) ws :=
  ⟨s2 ++ [.lst ws], _, by simp, rfl, by simp, by simp⟩
theorem Own.new' (h : ∃ s2, s = st ++ s2) (ws : List W) : Own st (s ++ [.lst ws]) (.loc s.length) ws := by
  obtain ⟨s2, rfl⟩ := h
  exact Own.new s2 ws
/-- something is laid behind -/
theorem Own.more (h : Own st s x ws) (o : O) : Own st (s ++ [o]) x ws := by
  obtain ⟨s2, l, rfl, rfl, hl, e⟩ := h
  exact ⟨s2 ++ [o], l, by simp, rfl, hl, by rw [List.getElem?_append_left (List.getElem?_eq_some_iff.mp e).1]; exact e⟩
theorem Own.put (h : Own st s x ws) (us : List W) : ∃ l, x = .loc l ∧ s[l]? = some (.lst ws) ∧ Own st (s.set l (.lst us)) x us := by
  obtain ⟨s2, l, rfl, rfl, hl, e⟩ := h
  have hlt := (List.getElem?_eq_some_iff.mp e).1
  exact ⟨l, rfl, e, s2.set (l - st.length) (.lst us), l, by rw [List.set_append_right _ _ hl], rfl, hl, by rw [List.getElem?_set_self hlt]⟩
theorem Own.app (h : Own st s x ws) (hl : ws.length < 10000000) (w : W) : ∃ s', appF x [w] s = .ok .non s' ∧ Own st s' x (ws ++ [w]) := by
  obtain ⟨l, rfl, e, o⟩ := h.put (ws ++ [w])
  exact ⟨_, by simp only [appF, e]; rw [if_pos (ck_iff.mpr hl)], o⟩
theorem Own.lmApp (h : Own st s x ws) {f : W → List W → Sto → R W} {o : Ex} {m : Ax} {env : En} (ho : o env s = .ok x s) : lmE f o m env s = (m env s).bind fun ws s2 => f x ws s2 := by
  unfold lmE
  rw [ho, R.bind_ok, h.lk]
theorem Own.setI (h : Own st s x ws) {k : Nat} (hk : k < ws.length) (w : W) : ∃ s', setI x (.int (k : Int)) w s = .ok () s' ∧ Own st s' x (ws.set k w) := by
  obtain ⟨l, rfl, e, o⟩ := h.put (ws.set k w)
  exact ⟨_, by simp only [ML.setI, e, ixN_lt hk], o⟩
theorem Own.add (h : Own st s x ws) {y : W} {ys : List W} (hy : lstOf s y = some ys) (hl : ws.length + ys.length ≤ 10000000) : ∃ s' x', addLW x y s = .ok x' s' ∧ Own st s' x' (ws ++ ys) := by
  refine ⟨s ++ [.lst (ws ++ ys)], .loc s.length, ?_, Own.new' h.ext _⟩
  unfold addLW
  rw [h.lst, hy]
  simp only
  rw [if_pos (ck_iff.mpr hl)]
theorem Own.fzs (h : Own st s x ws) (c : ∀ w ∈ ws, Cl w) : Fzs st.length s x (.fl ws) := by
  obtain ⟨s2, l, rfl, rfl, hl, e⟩ := h
  exact Fzs.locC hl e c
end
end
end ML

/-! ML16: enumerate over a tuple; zip of a tuple and a list -/
namespace ML
open PySem PySem.Spec PyProof.Rows L2
open AutoSeq1 (wpAny_loadPart')
section
set_option maxHeartbeats 1000000 in
theorem meets_enumerate_newV {v : Value} {o : Obj} {H : Heap → Prop} (B : Begins v o H) :
    Meets (Builtin.«enumerate.__new__» ⟨[.type "enumerate", v], []⟩) (fun _ R s => H s.heap ∧
      R (.ok (.ret (.ref (s.heap.push o).objs.size))) { s with heap := (s.heap.push o).push { cls := .type "enumerate", data := .fields #[.none, .bool false, .ref s.heap.objs.size, rawInt 0, .none, .none] } }) :=
  .of_wp fun prog w A R s h => by
    obtain ⟨hp, g, d, tk, os⟩ := s; obtain ⟨h1, h⟩ := h
    have hsub := sub_enumerate
    have q1 : ∀ {A' : Around} {E : Value → Shared → Prop} {Q : Value → Shared → Prop}, Q (.ref hp.objs.size) ⟨hp.push o, g, d, tk, os⟩ → wpAny (model prog w) A' (pyIter v) Q E ⟨hp, g, d, tk, os⟩ :=
      fun q => B.iter prog w _ _ ⟨hp, g, d, tk, os⟩ _ h1 q
    wp_walk using q1
    refine wpAny_stack_any fun st => wpAny_pure ?_
    split
    · rename_i c _ _ _ _ _
      cases (c == Value.type "enumerate")
      · wp_walk using q1
        exact ⟨_, rfl, h⟩
      · wp_walk using q1
        exact ⟨_, rfl, h⟩
    · wp_walk using q1
      exact ⟨_, rfl, h⟩
variable {prog : Program} {w : World} {A : Around} {E : Value → Shared → Prop} {s : Shared}
theorem call_enumV {v : Value} {o : Obj} {H : Heap → Prop} {Q : Value → Shared → Prop} (B : Begins v o H) (h1 : H s.heap)
    (h : ∀ h', IsEnum h' (s.heap.objs.size + 1) s.heap.objs.size 0 .none → h'.get? s.heap.objs.size = some o → h'.objs.size = s.heap.objs.size + 2 →
      (∀ b o, s.heap.get? b = some o → h'.get? b = some o) → Q (.ref (s.heap.objs.size + 1)) { s with heap := h' }) :
    wpAny (model prog w) A (call (.type "enumerate") [v]) Q E s := by
  refine callType_new F.called_enumerate (by decide) (F.typeCall_enumerate_1 _) (F.newCall_enumerate_1 _) (fun obj => F.args_object_init_2 obj _) F.entry_enumerate_new
    (meets_enumerate_newV B) ⟨h1, ?_⟩
  have hz : (s.heap.push o).objs.size = s.heap.objs.size + 1 := Heap.size_push ..
  show _ ∧ _
  rw [hz]
  have he : IsEnum ((s.heap.push o).push { cls := .type "enumerate", data := .fields #[.none, .bool false, .ref s.heap.objs.size, rawInt 0, .none, .none] }) (s.heap.objs.size + 1) s.heap.objs.size 0 .none := by
    have := Heap.get?_push_size (s.heap.push o) (o := { cls := .type "enumerate", data := .fields #[.none, .bool false, .ref s.heap.objs.size, rawInt 0, .none, .none] }) rfl
    rw [hz] at this; exact this
  refine ⟨⟨_, he, rfl⟩, h _ he (Heap.get?_push_of_some _ (Heap.get?_push_size _ B.free)) (by rw [Heap.size_push, hz]) fun b o x => Heap.get?_push_of_some _ (Heap.get?_push_of_some _ x)⟩
end
/-- the tuple at a, each item in a new pair with its number -/
def IteT (K : PySem.W.Frag) (a : Addr) : It :=
  ⟨fun i H => ∃ (xs : List V) (x : V), SqT K H a xs ∧ xs[i]? = some x, fun i H v H' => ∃ T x, v = .ref T ∧ H T = none ∧ H' = upd H T (.tup [.int (i : Nat), x]) ∧ ∀ xs, SqT K H a xs → xs[i]? = some x, fun i H => ∃ xs : List V, SqT K H a xs ∧ xs.length ≤ i⟩
theorem turn_enumT {P : Program} {w : World} {K : PySem.W.Frag} {elts : List Expr} {kk : Nat} {tpos : Pos} (a e it : Addr) (hea : e ≠ a) (hia : a ≠ it) (hne : e ≠ it) :
    Turn P w K (.Tuple elts kk tpos) (IteT K a) [e, it] e (fun i h => (∃ old, IsEnum h e it ((i : Nat) : Int) old) ∧ h.IsTupleIter it a i) where
  mem := by simp
  obj := fun i h st b hb => by
    obtain ⟨⟨old, he⟩, ⟨o, ho, hc, hd⟩⟩ := st
    have e' : b = e ∨ b = it := by simpa using hb
    rcases e' with z | z
    · rw [z]; exact ⟨_, he, fun v q => nomatch q⟩
    · rw [z]; exact ⟨o, ho, fun v q => by rw [hd] at q; cases q⟩
  keep := fun i h h' st k => let ⟨⟨old, he⟩, hi⟩ := st; ⟨⟨old, k e (by simp) _ he⟩, hi.at fun o q => k it (by simp) o q⟩
  item := by
    intro X hP hw hK hc i pins s σ H E I hf st hg
    subst hP hw hK
    obtain ⟨⟨old, he⟩, hit⟩ := st
    obtain ⟨xs, x, hq, hx⟩ := hg
    obtain ⟨its, rv, p, hz⟩ := I.tuple hq
    obtain ⟨u, hu, ru⟩ := rv.get hx
    have hel : e < s.heap.objs.size := Heap.lt_size he
    have hil : it < s.heap.objs.size := by obtain ⟨_, q, _⟩ := hit; exact Heap.lt_size q
    have hh : X.A.in1.handled = none := I.ok.hd hc
    have hlt : i < its.toArray.size := by
      have := (List.getElem?_eq_some_iff.mp hu).1
      simpa using this
    refine wpAny_pyNext_enum_itemD (Draws.tuple hh it a hia its.toArray) he ⟨hit, p⟩ hlt hne (by simp [hne, hea]) fun u' h' tk hpx ho st' hT hsz hk => ?_
    have eu : u' = u := by
      have hpx : its.toArray[i]? = some u' := hpx
      have hu2 : its.toArray[i]? = some u := by simpa using hu
      rw [hu2] at hpx
      exact (Option.some.inj hpx).symm
    subst eu
    refine ⟨_, rfl, wpAny_letOwnedTupleGo_enum (s := { s with heap := h', toks := tk + 1 }) ho fun h'' he' sb => ?_⟩
    have hT2 : h''.get? s.heap.objs.size = some { cls := .type "tuple", data := .seq #[.int i tk, u'] } := (sb.2 _ (Nat.ne_of_gt hel)).trans hT
    have new : ObjOk X.prog X.w (upd H s.heap.objs.size (.tup [.int (i : Nat), x])) h'' s.heap.objs.size (.tup [.int (i : Nat), x]) :=
      ⟨by show 2 ≤ sizeLine; decide, [.int i tk, u'], .cons ⟨_, rfl⟩ (.cons ru .nil), ⟨_, hT2, rfl, _, rfl⟩⟩
    have I1 : Inv X pins σ (upd H s.heap.objs.size (.tup [.int (i : Nat), x])) { s with heap := h'', toks := tk + 1 } :=
      I.turnedNew (ch := [e, it]) (fun b ob hb q => (sb.2 b (fun z => hb (by simp [z]))).trans (hk b ob (fun z => hb (by simp [z])) (fun z => hb (by simp [z])) q)) hf (Nat.le_refl _) new
    refine ⟨.ref s.heap.objs.size, _, I1, rfl, ⟨_, x, rfl, I.hok.fresh (Nat.le_refl _), rfl, fun ys hy => by rw [I.tuple_inj hy hq]; exact hx⟩, ⟨⟨u', ?_⟩, st'.1.at fun o q => (sb.2 it (Ne.symm hne)).trans q⟩, fun b hb => ?_⟩
    · have e1 : ((i + 1 : Nat) : Int) = (i : Int) + 1 := by omega
      rw [e1]; exact he'
    · have hb' : b < s.heap.objs.size := by
        have e' : b = e ∨ b = it := by simpa using hb
        rcases e' with z | z
        · rw [z]; exact hel
        · rw [z]; exact hil
      rw [upd_ne (Nat.ne_of_lt hb')]
      exact (hf b hb).1
  done := by
    intro X hP hw hK hc i pins s σ H E I hf st hg
    subst hP hw hK
    obtain ⟨⟨old, he⟩, hit⟩ := st
    obtain ⟨xs, hq, hx⟩ := hg
    obtain ⟨its, rv, p, hz⟩ := I.tuple hq
    obtain ⟨f0, f1, f2, f3, f4, f5⟩ := hf it (by simp)
    have hl := rv.length
    have hh : X.A.in1.handled = none := I.ok.hd hc
    have D : Draws X.prog X.w X.A.in1 it [it, a] i (fun _ _ => True) (fun j h => j = i ∧ h.IsTupleIter it a j ∧ h.IsTuple a its.toArray) :=
      { live := fun _ _ st => let ⟨o, ho, _⟩ := st.2.1; ⟨o, ho⟩
        frame := fun _ _ _ st hk => ⟨st.1, st.2.1.at fun o e => hk it (by simp) o e, st.2.2.at fun o e => hk a (by simp) o e⟩
        item := fun j s Q E hj st hQ => absurd st.1 (by omega)
        done := fun s Q E st hE => wpAny_nextOf_tuple_end hh st.2.1 st.2.2 (by simp; omega) hE }
    exact wpAny_pyNext_enum_endD D he ⟨rfl, hit, p⟩ fun h' eb => ⟨rfl, I.turned (t' := s.toks) (fun b o hb q => eb b o hb q) f0 f1 f3 f4 f5⟩
  self := fun A i s Q E st h => let ⟨⟨_, he⟩, _⟩ := st; wpAny_pyIter_enum he h
def iEnumT (K : PySem.W.Frag) (ta : TA) : TI := fun σ H R => ta σ H fun vs H1 => ∃ a xs, vs = [.ref a] ∧ ((SqL K H1 a xs ∧ R (Ite K a) H1) ∨ (SqT K H1 a xs ∧ R (IteT K a) H1))
theorem pi_enumA {X : Cx} {e : Expr} {ta : TA} {p pos tpos : Pos} {elts : List Expr} {kk : Nat} (hg : Gl X "enumerate") (hm : X.mg "enumerate" = none) (ha : PA X [e] ta) (hs : starEach [e] X.env = [(false, eval e X.env)] := by rfl) :
    PI X (.Tuple elts kk tpos) (.Call (.Name "enumerate" p) [e] [] pos) (iEnumT X.K ta) := by
  refine ⟨fun pins s σ H R I h => ?_⟩
  refine Call_ (ld_blt I hg hm boot_enumerate (PyProof.Rows.callWith_type1 (thn (ha.run pos pins s σ H _ I h) fun us s1 ⟨vs, H1, I1, r1, q1⟩ => ?_) hs rfl))
  obtain ⟨a, xs, ex, q⟩ := q1
  subst ex
  cases r1 with
  | cons r rr =>
    cases rr
    cases r
    have fresh2 : ∀ b, b ∈ [s1.heap.objs.size + 1, s1.heap.objs.size] → FpOk X pins H1 b := fun b hb => by
      have e' : b = s1.heap.objs.size + 1 ∨ b = s1.heap.objs.size := by simpa using hb
      have hle : s1.heap.objs.size ≤ b := by
        rcases e' with z | z
        · rw [z]; exact Nat.le_add_right _ _
        · rw [z]; exact Nat.le_refl _
      exact I1.fpOk hle (I1.hok.fresh hle)
    rcases q with ⟨hq, q⟩ | ⟨hq, q⟩
    · obtain ⟨its, rv, p', hz⟩ := I1.list hq
      refine call_enumerate_list p'.isList fun h' he hit hsz hk => wpAny_pyIter_enum he ?_
      have I2 : Inv X pins σ H1 { s1 with heap := h' } := I1.kept (t' := s1.toks) hk
      exact ⟨s1.heap.objs.size + 1, [s1.heap.objs.size + 1, s1.heap.objs.size], _, _, H1, rfl, I2, turn_enum a (s1.heap.objs.size + 1) s1.heap.objs.size, ⟨⟨.none, he⟩, hit, Nat.succ_ne_self _⟩, fresh2, q⟩
    · obtain ⟨its, rv, p', hz⟩ := I1.tuple hq
      obtain ⟨o1, ho1, _⟩ := id p'
      have la : a < s1.heap.objs.size := Heap.lt_size ho1
      refine call_enumV (begins_tuple a its.toArray) p' fun h' he hit hsz hk => wpAny_pyIter_enum he ?_
      have I2 : Inv X pins σ H1 { s1 with heap := h' } := I1.kept (t' := s1.toks) hk
      exact ⟨s1.heap.objs.size + 1, [s1.heap.objs.size + 1, s1.heap.objs.size], _, _, H1, rfl, I2, turn_enumT a (s1.heap.objs.size + 1) s1.heap.objs.size (Nat.ne_of_gt (Nat.lt_succ_of_lt la)) (Nat.ne_of_lt la) (Nat.succ_ne_self _), ⟨⟨.none, he⟩, ⟨_, hit, rfl, rfl⟩⟩, fresh2, q⟩
/-- the tuple at a, the list at b, the items in new pairs -/
def ItzM (K : PySem.W.Frag) (a b : Addr) : It :=
  ⟨fun i H => ∃ (xs ys : List V) (x y : V), SqT K H a xs ∧ SqL K H b ys ∧ xs[i]? = some x ∧ ys[i]? = some y,
    fun i H v H' => ∃ T x y, v = .ref T ∧ H T = none ∧ H' = upd H T (.tup [x, y]) ∧ (∀ xs, SqT K H a xs → xs[i]? = some x) ∧ ∀ ys, SqL K H b ys → ys[i]? = some y,
    fun i H => ∃ xs ys : List V, SqT K H a xs ∧ SqL K H b ys ∧ (xs.length ≤ i ∨ ys.length ≤ i)⟩
theorem sep_of {a b z TI TO i1 i2 : Addr} (D : ZipApart z TI TO i1 i2 a b) : ZipSep2 z TI TO i1 i2 [i1, a] [i2, b] where
  TIz := D.TIz
  TOz := D.TOz
  TITO := D.TITO
  TIi1 := D.TIi1
  mem1 := by simp
  zf1 := by simp [D.i1z.symm, D.l1z.symm]
  Tf1 := by simp [D.TOi1, D.l1TO.symm]
  TIi2 := D.TIi2
  mem2 := by simp
  zf2 := by simp [D.i2z.symm, D.l2z.symm]
  Tf2 := by simp [D.TOi2, D.l2TO.symm]
  sep1_2 := by simp [D.i12, D.l2i1.symm]
  sep2_1 := by simp [D.i12.symm, D.l1i2.symm]
theorem turn_zipM {P : Program} {w : World} {K : PySem.W.Frag} {elts : List Expr} {kk : Nat} {tpos : Pos} {a b z TI TO i1 i2 : Addr} (D : ZipApart z TI TO i1 i2 a b) :
    Turn P w K (.Tuple elts kk tpos) (ItzM K a b) [z, TI, TO, i1, i2] z (fun i h => IsZip h z TI TO .none ∧ IsPair h TI (.ref i1) (.ref i2) ∧ (∃ x y, IsPair h TO x y) ∧ h.IsTupleIter i1 a i ∧ h.IsListIter i2 b i) where
  mem := by simp
  obj := fun i h st c hc => by
    obtain ⟨hz, hTI, ⟨x, y, hTO⟩, ⟨o1, e1, _, d1⟩, ⟨o2, e2, _, d2⟩⟩ := st
    have e' : c = z ∨ c = TI ∨ c = TO ∨ c = i1 ∨ c = i2 := by simpa using hc
    rcases e' with q | q | q | q | q
    · rw [q]; exact ⟨_, hz, fun v q => nomatch q⟩
    · rw [q]; exact ⟨_, hTI, fun v q => nomatch q⟩
    · rw [q]; exact ⟨_, hTO, fun v q => nomatch q⟩
    · rw [q]; exact ⟨o1, e1, fun v q => by rw [d1] at q; cases q⟩
    · rw [q]; exact ⟨o2, e2, fun v q => by rw [d2] at q; cases q⟩
  keep := fun i h h' st k => by
    obtain ⟨hz, hTI, ⟨x, y, hTO⟩, h1, h2⟩ := st
    exact ⟨k z (by simp) _ hz, k TI (by simp) _ hTI, ⟨x, y, k TO (by simp) _ hTO⟩, h1.at fun o q => k i1 (by simp) o q, h2.at fun o q => k i2 (by simp) o q⟩
  item := by
    intro X hP hw hK hc i pins s σ H E I hf st hg
    subst hP hw hK
    obtain ⟨hz, hTI, ⟨x0, y0, hTO⟩, h1, h2⟩ := st
    obtain ⟨xs, ys, x, y, hqx, hqy, hx, hy⟩ := hg
    obtain ⟨its, rv, p, _⟩ := I.tuple hqx
    obtain ⟨its2, rv2, p2, _⟩ := I.list hqy
    obtain ⟨u, hu, ru⟩ := rv.get hx
    obtain ⟨u2, hu2, ru2⟩ := rv2.get hy
    have hzl : z < s.heap.objs.size := Heap.lt_size hz
    have hh : X.A.in1.handled = none := I.ok.hd hc
    have lt1 : i < its.toArray.size := by have := (List.getElem?_eq_some_iff.mp hu).1; simpa using this
    have lt2 : i < its2.toArray.size := by have := (List.getElem?_eq_some_iff.mp hu2).1; simpa using this
    refine wpAny_pyNext_zipD2_item (sep_of D) (Draws.tuple hh i1 a D.l1i1 its.toArray) (Draws.list hh i2 b D.l2i2 its2.toArray) hz hTI hTO ⟨h1, p⟩ ⟨h2, p2.isList⟩ lt1 lt2 fun v1 v2 h' tk e1 e2 z' TO' s1' s2' hT hsz hk => ?_
    have q1 : v1 = u := by
      have e1 : its.toArray[i]? = some v1 := e1
      have : its.toArray[i]? = some u := by simpa using hu
      rw [this] at e1; exact (Option.some.inj e1).symm
    have q2 : v2 = u2 := by
      have e2 : its2.toArray[i]? = some v2 := e2
      have : its2.toArray[i]? = some u2 := by simpa using hu2
      rw [this] at e2; exact (Option.some.inj e2).symm
    subst q1 q2
    refine ⟨_, rfl, wpAny_letOwnedTupleGo_zip (s := { s with heap := h', toks := tk }) z' fun h'' z'' sb => ?_⟩
    have hT2 : h''.get? s.heap.objs.size = some { cls := .type "tuple", data := .seq #[v1, v2] } := (sb.2 _ (Nat.ne_of_gt hzl)).trans hT
    have new : ObjOk X.prog X.w (upd H s.heap.objs.size (.tup [x, y])) h'' s.heap.objs.size (.tup [x, y]) :=
      ⟨by show 2 ≤ sizeLine; decide, [v1, v2], .cons ru (.cons ru2 .nil), ⟨_, hT2, rfl, _, rfl⟩⟩
    have I1 : Inv X pins σ (upd H s.heap.objs.size (.tup [x, y])) { s with heap := h'', toks := tk } :=
      I.turnedNew (t' := tk) (ch := [z, TI, TO, i1, i2]) (fun c o hb q => (sb.2 c (fun q' => hb (by simp [q']))).trans (hk c o (fun q' => hb (by simp [q'])) (fun q' => hb (by simp [q'])) (fun q' => hb (by simp [q'])) (fun q' => hb (by simp [q'])) q)) hf (Nat.le_refl _) new
    refine ⟨.ref s.heap.objs.size, _, I1, rfl, ⟨_, x, y, rfl, I.hok.fresh (Nat.le_refl _), rfl, fun l hl => by rw [I.tuple_inj hl hqx]; exact hx, fun l hl => by rw [I.list_inj hl hqy]; exact hy⟩, ⟨z'', ?_, ⟨v1, v2, ?_⟩, ?_, ?_⟩, fun c hcm => ?_⟩
    · exact (sb.2 _ D.TIz).trans (hk _ _ D.TIz D.TITO D.TIi1 D.TIi2 hTI)
    · exact (sb.2 _ D.TOz).trans TO'
    · exact s1'.1.at fun o q => (sb.2 _ D.i1z).trans q
    · exact s2'.1.at fun o q => (sb.2 _ D.i2z).trans q
    · have hlt : c < s.heap.objs.size := by
        have e' : c = z ∨ c = TI ∨ c = TO ∨ c = i1 ∨ c = i2 := by simpa using hcm
        rcases e' with q | q | q | q | q
        · rw [q]; exact hzl
        · rw [q]; exact Heap.lt_size hTI
        · rw [q]; exact Heap.lt_size hTO
        · rw [q]; obtain ⟨_, e1, _⟩ := h1; exact Heap.lt_size e1
        · rw [q]; obtain ⟨_, e2, _⟩ := h2; exact Heap.lt_size e2
      rw [upd_ne (Nat.ne_of_lt hlt)]
      exact (hf c hcm).1
  done := by
    intro X hP hw hK hc i pins s σ H E I hf st hg
    subst hP hw hK
    obtain ⟨hz, hTI, ⟨x0, y0, hTO⟩, h1, h2⟩ := st
    obtain ⟨xs, ys, hqx, hqy, hend⟩ := hg
    obtain ⟨its, rv, p, _⟩ := I.tuple hqx
    obtain ⟨its2, rv2, p2, _⟩ := I.list hqy
    have l1 := rv.length
    have l2 := rv2.length
    have hh : X.A.in1.handled = none := I.ok.hd hc
    have fin : ∀ {h' : Heap} {tk : Tok}, (∀ c o, c ≠ z → c ≠ TO → c ≠ i1 → c ≠ i2 → s.heap.get? c = some o → h'.get? c = some o) → (none : Option Value) = none ∧ Inv X pins σ H { s with heap := h', toks := tk } := fun {h' tk} hk =>
      ⟨rfl, I.turnedL (t' := tk) (ch := [z, TI, TO, i1, i2]) (fun c o hb q => hk c o (fun q' => hb (by simp [q'])) (fun q' => hb (by simp [q'])) (fun q' => hb (by simp [q'])) (fun q' => hb (by simp [q'])) q) hf⟩
    by_cases e1 : xs.length ≤ i
    · have D1 : Draws X.prog X.w X.A.in1 i1 [i1, a] i (fun _ _ => True) (fun j h => j = i ∧ h.IsTupleIter i1 a j ∧ h.IsTuple a its.toArray) :=
        { live := fun _ _ st => let ⟨o, ho, _⟩ := st.2.1; ⟨o, ho⟩
          frame := fun _ _ _ st hk => ⟨st.1, st.2.1.at fun o e => hk i1 (by simp) o e, st.2.2.at fun o e => hk a (by simp) o e⟩
          item := fun j s Q E hj st hQ => absurd st.1 (by omega)
          done := fun s Q E st hE => wpAny_nextOf_tuple_end hh st.2.1 st.2.2 (by simp; omega) hE }
      by_cases e2 : i < its2.toArray.size
      · exact wpAny_pyNext_zipD2_end (sep_of D) D1 (Draws.list hh i2 b D.l2i2 its2.toArray) hz hTI hTO ⟨rfl, h1, p⟩ ⟨h2, p2.isList⟩ (Nat.le_refl _) (by omega) (.inl rfl) fun h' tk hk => fin hk
      · have D2 : Draws X.prog X.w X.A.in1 i2 [i2, b] i (fun _ _ => True) (fun j h => j = i ∧ h.IsListIter i2 b j ∧ h.IsList b its2.toArray) :=
          { live := fun _ _ st => let ⟨o, ho, _⟩ := st.2.1; ⟨o, ho⟩
            frame := fun _ _ _ st hk => ⟨st.1, st.2.1.at fun o e => hk i2 (by simp) o e, st.2.2.at fun o e => hk b (by simp) o e⟩
            item := fun j s Q E hj st hQ => absurd st.1 (by omega)
            done := fun s Q E st hE => wpAny_nextOf_list_end hh st.2.1 st.2.2 (by have := e2; simp at this ⊢; omega) hE }
        exact wpAny_pyNext_zipD2_end (sep_of D) D1 D2 hz hTI hTO ⟨rfl, h1, p⟩ ⟨rfl, h2, p2.isList⟩ (Nat.le_refl _) (Nat.le_refl _) (.inl rfl) fun h' tk hk => fin hk
    · have e2 : ys.length ≤ i := by rcases hend with h | h <;> omega
      have D2 : Draws X.prog X.w X.A.in1 i2 [i2, b] i (fun _ _ => True) (fun j h => j = i ∧ h.IsListIter i2 b j ∧ h.IsList b its2.toArray) :=
        { live := fun _ _ st => let ⟨o, ho, _⟩ := st.2.1; ⟨o, ho⟩
          frame := fun _ _ _ st hk => ⟨st.1, st.2.1.at fun o e => hk i2 (by simp) o e, st.2.2.at fun o e => hk b (by simp) o e⟩
          item := fun j s Q E hj st hQ => absurd st.1 (by omega)
          done := fun s Q E st hE => wpAny_nextOf_list_end hh st.2.1 st.2.2 (by simp; omega) hE }
      exact wpAny_pyNext_zipD2_end (sep_of D) (Draws.tuple hh i1 a D.l1i1 its.toArray) D2 hz hTI hTO ⟨h1, p⟩ ⟨rfl, h2, p2.isList⟩ (by simp; omega) (Nat.le_refl _) (.inr rfl) fun h' tk hk => fin hk
  self := fun A i s Q E st h => wpAny_pyIter_zip st.1 h
def iZipM (K : PySem.W.Frag) (ta : TA) : TI := fun σ H R => ta σ H fun vs H1 => ∃ a b xs ys, vs = [.ref a, .ref b] ∧ SqT K H1 a xs ∧ SqL K H1 b ys ∧ R (ItzM K a b) H1
theorem pi_zipM {X : Cx} {e e2 : Expr} {ta : TA} {p pos tpos : Pos} {elts : List Expr} {kk : Nat} (hg : Gl X "zip") (hm : X.mg "zip" = none) (ha : PA X [e, e2] ta)
    (hs : starEach [e, e2] X.env = (false, eval e X.env) :: starEach [e2] X.env := by rfl) (hpl : (backTo pos (starEach [e2] X.env)).any (·.1) = false := by rfl) :
    PI X (.Tuple elts kk tpos) (.Call (.Name "zip" p) [e, e2] [] pos) (iZipM X.K ta) := by
  refine ⟨fun pins s σ H R I h => ?_⟩
  refine Call_ (ld_blt I hg hm PyProof.Rows.boot_zip (PyProof.Rows.callWith_type1 (thn (ha.run pos pins s σ H _ I h) fun us s1 ⟨vs, H1, I1, r1, q1⟩ => ?_) hs hpl))
  obtain ⟨a, b, xs, ys, ex, hqx, hqy, q⟩ := q1
  subst ex
  cases r1 with
  | cons r rr =>
    cases rr with
    | cons r' rr =>
      cases rr
      cases r
      cases r'
      obtain ⟨its, rv, p1, _⟩ := I1.tuple hqx
      obtain ⟨its2, rv2, p2, _⟩ := I1.list hqy
      obtain ⟨o1, ho1, _⟩ := id p1
      have la : a < s1.heap.objs.size := Heap.lt_size ho1
      have lb : b < s1.heap.objs.size := p2.lt
      refine zip_begins2 (begins_tuple a its.toArray) (begins_list b its2.toArray) p1 p2.isList fun h' hz hTI hTO h1 h2 hsz hk => wpAny_pyIter_zip hz ?_
      have I2 : Inv X pins σ H1 { s1 with heap := h' } := I1.kept (t' := s1.toks) hk
      refine ⟨s1.heap.objs.size + 4, [s1.heap.objs.size + 4, s1.heap.objs.size + 2, s1.heap.objs.size + 3, s1.heap.objs.size, s1.heap.objs.size + 1], _, _, H1, rfl, I2, turn_zipM (PySem.W.ktu_apart s1.heap.objs.size a b la lb), ⟨hz, hTI, ⟨_, _, hTO⟩, ⟨_, h1, rfl, rfl⟩, ⟨_, h2, rfl, rfl⟩⟩, fun c hcm => ?_, q⟩
      have e' : c = s1.heap.objs.size + 4 ∨ c = s1.heap.objs.size + 2 ∨ c = s1.heap.objs.size + 3 ∨ c = s1.heap.objs.size ∨ c = s1.heap.objs.size + 1 := by simpa using hcm
      have hle : s1.heap.objs.size ≤ c := by
        rcases e' with z | z | z | z | z
        · rw [z]; exact Nat.le_add_right _ _
        · rw [z]; exact Nat.le_add_right _ _
        · rw [z]; exact Nat.le_add_right _ _
        · rw [z]; exact Nat.le_refl _
        · rw [z]; exact Nat.le_add_right _ _
      exact I1.fpOk hle (I1.hok.fresh hle)
/-! ### in the reading -/
noncomputable section
variable {X : Cx} {C : MC} {E : XK} {a b : Expr} {mr : Ax} {pos tpos : Pos}
theorem iteT_rel {H : Hp} {ρ : Pl} {st : Sto} {a : Addr} {vs : List V} {ws : List W} (S : RelS C H ρ st) (k : SqT C.K H a vs) (l : RepL C.K H ρ st vs ws) : ItRel C (IteT C.K a) H ρ st (.st (ws.zipIdx.map fun p => enG p.2 p.1)) := by
  intro H' ρ' st' ev S' i o ho
  have k' := SqT.evo ev S.liv k
  have l' := l.evo ev S.liv
  cases ho
  simp only [List.getElem?_map, List.getElem?_zipIdx, Option.map_map]
  cases ei : ws[i]? with
  | none => exact ⟨vs, k', by rw [l'.length]; exact List.getElem?_eq_none_iff.mp ei⟩
  | some x =>
    obtain ⟨v, hv, rv⟩ := l'.get ei
    refine ⟨⟨vs, v, k', hv⟩, fun y H'' hy => ?_⟩
    obtain ⟨T, v', ez, hT, eH, h1⟩ := hy
    have e1 := h1 vs k'
    rw [hv] at e1; cases e1
    rw [ez, eH]
    have q := yld2 (C := C) S' hT (.int (i : Int)) rv
    simpa [enG] using q
def enJ (m : Ax) : Ix := fun env st => (m env st).bind fun ws s => match ws with
  | [.tup xs] => .ok (.st (xs.zipIdx.map fun p => enG p.2 p.1)) s
  | [w] => match srcL enG w s with
    | some src => .ok src s
    | none => .no
  | _ => .no
theorem mi_enumA {p : Pos} {elts : List Expr} {kk : Nat} (hK : C.K = X.K) (hg : Gl X "enumerate") (hm : X.mg "enumerate" = none) (ha : MA' X C E [a] mr) (hs : starEach [a] X.env = [(false, eval a X.env)] := by rfl) :
    MI X C E (.Tuple elts kk tpos) (.Call (.Name "enumerate" p) [a] [] pos) (enJ mr) := by
  refine PI.imp (pi_enumA hg hm ha.pa hs) fun σ H R ⟨ρ, st, env, re, S, p⟩ => ⟨ρ, st, env, re, S, Post.bind (rel := relWs C) p fun ws s1 H1 ρ1 vs hw e1 S1 r1 p1 => ?_⟩
  rw [← hK]
  split at p1
  · obtain ⟨v, rfl, q1⟩ := r1.one
    cases q1 with
    | tup k1 l1 => exact ⟨_, _, rfl, .inr ⟨k1, p1 H1 ρ1 _ (Evo.refl ..) S1 (iteT_rel S1 k1 l1)⟩⟩
  · obtain ⟨v, rfl, q1⟩ := r1.one
    split at p1
    · rename_i src e0
      obtain ⟨ws, ek⟩ := srcL_lst e0
      obtain ⟨a, vs, rfl, q, r⟩ := lstK_rep S1 q1 ek
      exact ⟨a, vs, rfl, .inl ⟨q, p1 H1 ρ1 _ (Evo.refl ..) S1 (ite_rel (s := s1) S1 q1 fun st' i o ho => srcL_at e0 ho)⟩⟩
    · exact p1.elim
  · exact p1.elim
theorem itzM_rel {H : Hp} {ρ : Pl} {st s : Sto} {a b : Addr} {vs : List V} {xs : List W} {y : W} {src : Src} (S : RelS C H ρ st) (k1 : SqT C.K H a vs) (l1 : RepL C.K H ρ st vs xs) (r2 : Rep C.K H ρ st (.ref b) y)
    (h : ∀ st' i o, src.at i st' = some o → ∃ ys, lstK st' y = some ys ∧ o = (zipW xs ys)[i]?) : ItRel C (ItzM C.K a b) H ρ st src := by
  intro H' ρ' st' ev S' i o ho
  have k1' := SqT.evo ev S.liv k1
  have l1' := l1.evo ev S.liv
  have r2' := r2.evo ev S.liv
  obtain ⟨ys, ey, eo⟩ := h _ _ _ ho
  obtain ⟨b', us, eb, k2, l2⟩ := lstK_rep S' r2' ey
  cases eb
  subst eo
  rcases zipW_at xs ys i with ⟨x, y, hz, hx, hy⟩ | ⟨hz, hl⟩
  · rw [hz]
    obtain ⟨v, hv, rv⟩ := l1'.get hx
    obtain ⟨u, hu, ru⟩ := l2.get hy
    refine ⟨⟨vs, us, v, u, k1', k2, hv, hu⟩, fun z H'' hy => ?_⟩
    obtain ⟨T, v', u', ez, hT, eH, h1, h2⟩ := hy
    have e1 := h1 vs k1'
    have e2 := h2 us k2
    rw [hv] at e1; cases e1
    rw [hu] at e2; cases e2
    rw [ez, eH]
    exact yld2 S' hT rv ru
  · rw [hz]
    exact ⟨vs, us, k1', k2, by rw [l1'.length, l2.length]; exact hl⟩
/-- zip of a tuple and a list -/
def zmI (m : Ax) : Ix := fun env st => (m env st).bind fun ws s => match ws with
  | [.tup xs, y] => match lstK s y with
    | some ys => if valW y = true then .ok (.st (zipW xs ys)) s else .ok (.dy (xs.length + 1) fun i st' => match lstK st' y with
      | some ys => some ((zipW xs ys)[i]?)
      | none => none) s
    | none => .no
  | _ => .no
theorem mi_zipM {p : Pos} {elts : List Expr} {kk : Nat} (hK : C.K = X.K) (hg : Gl X "zip") (hm : X.mg "zip" = none) (ha : MA' X C E [a, b] mr)
    (hs : starEach [a, b] X.env = (false, eval a X.env) :: starEach [b] X.env := by rfl) (hpl : (backTo pos (starEach [b] X.env)).any (·.1) = false := by rfl) :
    MI X C E (.Tuple elts kk tpos) (.Call (.Name "zip" p) [a, b] [] pos) (zmI mr) := by
  refine PI.imp (pi_zipM hg hm ha.pa hs hpl) fun σ H R ⟨ρ, st, env, re, S, p⟩ => ⟨ρ, st, env, re, S, Post.bind (rel := relWs C) p fun ws s1 H1 ρ1 vs hw e1 S1 r1 p1 => ?_⟩
  rw [← hK]
  split at p1
  · obtain ⟨v, u, rfl, q1, q2⟩ := r1.two
    cases q1 with
    | tup k1 l1 =>
      split at p1
      · rename_i xs y ys hy
        obtain ⟨b, us, rfl, k2, l2⟩ := lstK_rep S1 q2 hy
        split at p1
        · rename_i hv
          refine ⟨_, _, _, _, rfl, k1, k2, p1 H1 ρ1 _ (Evo.refl ..) S1 (itzM_rel (s := s1) S1 k1 l1 q2 fun st' i o ho => ⟨ys, ?_, ?_⟩)⟩
          · rw [valW_lst hv st' s1, hy]
          · cases ho; rfl
        · refine ⟨_, _, _, _, rfl, k1, k2, p1 H1 ρ1 _ (Evo.refl ..) S1 (itzM_rel (s := s1) S1 k1 l1 q2 fun st' i o ho => ?_)⟩
          simp only [Src.at] at ho
          split at ho
          · rename_i ys' e1
            cases ho
            exact ⟨ys', e1, rfl⟩
          · cases ho
      · exact p1.elim
  · exact p1.elim
theorem zmI_fl {m : Ax} {env : En} {s0 st : Sto} {xs ys : List W} (h : m env s0 = .ok [.tup xs, .fl ys] st) : zmI m env s0 = .ok (.st (zipW xs ys)) st := by
  simp [zmI, h, lstK, lstOf, valW]
theorem enJ_tup {m : Ax} {env : En} {s0 st : Sto} {xs : List W} (h : m env s0 = .ok [.tup xs] st) : enJ m env s0 = .ok (.st (xs.zipIdx.map fun p => enG p.2 p.1)) st := by
  simp [enJ, h]
end
end ML

/-! ML17: tuple + tuple and slices of tuples, of any kind -/
namespace ML
open PySem L2
noncomputable section
variable {X : Cx} {C : MC} {E : XK}
def addAW (x y : W) (s : Sto) : R W := match x, y with
  | .tup xs, .tup ys => if ck (xs.length + ys.length ≤ 10000000) = true then .ok (.tup (xs ++ ys)) s else .no
  | x, y => addW x y s
def rAddA (K : PySem.W.Frag) : R2 := fun x y H Q => (rI0 (fun i j => .int (i + j)) x y H Q ∨ (∃ i j, x = .str i ∧ y = .str j ∧ i.length + j.length ≤ sizeLine ∧ Q (.str (i ++ j)) H)) ∨ (rCatA K x y H Q ∨ rCat x y H Q)
theorem or_addA : OpR X (binaryOp .Add) (rAddA X.K) := (op_add.or op_add_str).or (op_catA.or op_cat)
theorem om_addA : OpM C E (rAddA C.K) addAW := by
  intro H ρ st v u x y Q S rx ry p
  unfold addAW at p
  split at p
  · cases rx with
    | tup h1 h2 =>
      cases ry with
      | tup h3 h4 =>
        split at p
        · rename_i xs ys h
          have nn : ∀ {us : List V} {ws : List W}, RepL C.K H ρ st us ws → (us = [] ↔ ws = []) := fun r => by cases r <;> simp
          refine .inr (.inl ⟨_, _, _, _, rfl, rfl, h1, h3, by rw [h2.length, h4.length]; exact szL (ck_iff.mp h), fun z => ?_, fun z0 z => ?_, fun z0 z q hq => ?_⟩)
          · refine p H ρ _ (Evo.refl ..) S (.tup h3 ?_)
            rw [(nn h2).mp z, List.nil_append]
            exact h4
          · refine p H ρ _ (Evo.refl ..) S (.tup h1 ?_)
            rw [(nn h4).mp z, List.append_nil]
            exact h2
          · exact p _ ρ _ (Evo.laid hq) (S.laid hq) (tup_new S hq (h2.append h4))
        · exact p.elim
  · rcases om_add H ρ st v u x y Q S rx ry p with h | h | h
    · exact .inl h
    · obtain ⟨a, b, xs, ys, rfl, rfl, ha, hb, hx, hz, q1, q2⟩ := h
      exact .inr (.inl ⟨a, b, xs, ys, rfl, rfl, ha, hb, hz, fun z => absurd z hx, fun _ z => q1 z, fun _ z => q2 z⟩)
    · exact .inr (.inr h)
def slAF (x : W) (lo hi : Option Int) (s : Sto) : R W := match x with
  | .tup ws => .ok (.tup (cutL ws lo hi)) s
  | x => slF x lo hi s
def rSlAU (K : PySem.W.Frag) : V → Option Int → Option Int → Hp → VK → Prop := fun x lo hi H Q => rSlL K x lo hi H Q ∨ rSlA K x lo hi H Q
theorem or_slA : SlR X (rSlAU X.K) := sl_list.or sl_tupA
theorem cut_whole {α : Type} {xs : List α} {lo hi : Option Int} (h : HT.sIx xs.length 0 lo = 0 ∧ HT.sIx xs.length xs.length hi = xs.length) : cutL xs lo hi = xs := by
  unfold cutL
  rw [h.1, h.2]; simp
theorem sm_slA : SlM C E (rSlAU C.K) slAF := by
  intro H ρ st v x lo hi Q S rx p
  unfold slAF at p
  split at p
  · cases rx with
    | tup h1 h2 =>
      refine .inr ⟨_, _, rfl, h1, fun z => ?_, fun z q hq => p _ ρ _ (Evo.laid hq) (S.laid hq) (tup_new S hq (cutL_rep h2 lo hi))⟩
      rw [h2.length] at z
      rw [cut_whole z] at p
      exact p H ρ _ (Evo.refl ..) S (.tup h1 h2)
  · rcases sm_sl H ρ st v x lo hi Q S rx p with h | h
    · exact .inl h
    · obtain ⟨a, xs, rfl, hx, hw, q⟩ := h
      exact .inr ⟨a, xs, rfl, hx, fun z => absurd z hw, fun _ => q⟩
theorem me_slA {a : Expr} {ma : Ex} {pos : Pos} {lo hi : Option Expr} {ml mh : Ox} {p2 : Pos} {f : W → Option Int → Option Int → Sto → R W} (hK : C.K = X.K) (hf : SlM C E (rSlAU C.K) f) (ha : ME X C E a ma) (hl : MO X C E lo ml) (hh : MO X C E hi mh) : ME X C E (.Subscript a (.Slice lo hi none p2) pos) (slE f ma ml mh) := by
  refine PE.imp (pe_slice or_slA ha hl hh) fun σ H Q ⟨ρ, st, env, re, S, p⟩ => ⟨ρ, st, env, re, S, Post.bind p fun x s1 H1 ρ1 v _ e1 S1 r1 p1 => ?_⟩
  have re1 := re.evo e1 S.liv
  refine ⟨ρ1, s1, env, re1, S1, Post.bind (rel := relI) p1 fun l s2 H2 ρ2 vl _ e2 S2 r2 p2 => ?_⟩
  refine ⟨ρ2, s2, env, re1.evo e2 S1.liv, S2, Post.bind (rel := relI) p2 fun h s3 H3 ρ3 vh _ e3 S3 r3 p3 => ?_⟩
  have r2 : vl = l := r2
  have r3 : vh = h := r3
  subst r2; subst r3
  rw [← hK]
  exact hf H3 ρ3 s3 v x vl vh Q S3 ((r1.evo e2 S1.liv).evo e3 S2.liv) p3
theorem addA_tup {xs ys : List W} {s : Sto} (h : xs.length + ys.length ≤ 10000000) : addAW (.tup xs) (.tup ys) s = .ok (.tup (xs ++ ys)) s := by simp [addAW, h]
theorem slA_tup (xs : List W) (lo hi : Option Int) (s : Sto) : slAF (.tup xs) lo hi s = .ok (.tup (cutL xs lo hi)) s := rfl
end
end ML

/-! ML18: dicts with written text keys, as records: the keys that a dict has got are the first ones of a fixed list -/
namespace ML
open PySem L2
noncomputable section
theorem RelS.placedD {C : MC} {H : Hp} {ρ : Pl} {st : Sto} {D : Addr} {kvs : List (Key × V)} {kws : List (Key × W)} (S : RelS C H ρ st) (hD : D ∈ ρ.hd) (hl : H D = some (.dK kvs)) (ra : RepK C.K H ρ st kvs kws) : RelS C H ((ρ.show D).add D) (st ++ [.dct kws]) := by
  have nD := (S.hid D hD).2
  refine ⟨by show (ρ.pl ++ [D]).length = _; simp [S.len], fun l m a h1 h2 => ?_, fun l a x h e => ?_, fun a h => ?_⟩
  · rcases add_at (ρ := ρ.show D) h1 with h1 | ⟨h1, e1⟩
    · rcases add_at (ρ := ρ.show D) h2 with h2 | ⟨h2, e2⟩
      · exact S.inj l m a h1 h2
      · rw [e2] at h1; exact absurd h1 (nD l)
    · rcases add_at (ρ := ρ.show D) h2 with h2 | ⟨h2, e2⟩
      · rw [e1] at h2; exact absurd h2 (nD m)
      · rw [h1, h2]
  · rcases add_at (ρ := ρ.show D) h with h | ⟨h, ea⟩
    · have hlt : l < st.length := by rw [← S.len]; exact (List.getElem?_eq_some_iff.mp h).1
      rw [List.getElem?_append_left hlt] at e
      have q := S.obj l a x h e
      cases x with
      | dead => exact q
      | lst ws => obtain ⟨vs, q, r⟩ := q; exact ⟨vs, q, r.placed hD⟩
      | ins c fs => obtain ⟨Cd, nm, dx, fvs, q1, q2, r1, r2, r3⟩ := q; exact ⟨Cd, nm, dx, fvs, q1, q2, r1, fun i f w a b => let ⟨v, e, r⟩ := r2 i f w a b; ⟨v, e, r.placed hD⟩, r3⟩
      | dct kws => obtain ⟨kvs, q, r⟩ := q; exact ⟨kvs, q, RepK.placed hD r⟩
    · have hl' : l = st.length := by rw [h]; exact S.len
      rw [hl', List.getElem?_append_right (Nat.le_refl _)] at e
      simp at e
      rw [ea, ← e]
      exact ⟨kvs, hl, RepK.placed hD ra⟩
  · have hs := show_sub h
    refine ⟨(S.hid a hs).1, fun l z => ?_⟩
    rcases add_at (ρ := ρ.show D) z with z | ⟨_, z⟩
    · exact (S.hid a hs).2 l z
    · rw [z] at h; exact show_not h
/-! ### what a dict holds -/
section
variable {K : PySem.W.Frag} {H : Hp} {ρ : Pl} {st : Sto}
theorem RepK.keys : ∀ {kvs : List (Key × V)} {kws : List (Key × W)}, RepK K H ρ st kvs kws → kvs.map (·.1) = kws.map (·.1)
  | [], [], _ => rfl
  | (k, v) :: kvs, (j, w) :: kws, h => by simp only [List.map_cons, h.1, RepK.keys h.2.2]
  | [], _ :: _, h => h.elim
  | _ :: _, [], h => h.elim
theorem RepK.length {kvs : List (Key × V)} {kws : List (Key × W)} (h : RepK K H ρ st kvs kws) : kvs.length = kws.length := by
  have := congrArg List.length h.keys
  simpa using this
theorem RepK.get : ∀ {kvs : List (Key × V)} {kws : List (Key × W)} {i : Nat} {p : Key × W}, RepK K H ρ st kvs kws → kws[i]? = some p → ∃ v, kvs[i]? = some (p.1, v) ∧ Rep K H ρ st v p.2
  | [], [], _, _, _, e => by simp at e
  | (k, v) :: kvs, (j, w) :: kws, 0, p, h, e => by simp at e; subst e; exact ⟨v, by rw [h.1]; rfl, h.2.1⟩
  | (k, v) :: kvs, (j, w) :: kws, i + 1, p, h, e => by
    obtain ⟨u, h1, h2⟩ := RepK.get (i := i) h.2.2 (by simpa using e)
    exact ⟨u, by simpa using h1, h2⟩
  | [], _ :: _, _, _, h, _ => h.elim
  | _ :: _, [], _, _, h, _ => h.elim
theorem RepK.set {v : V} {w : W} (r : Rep K H ρ st v w) : ∀ {kvs : List (Key × V)} {kws : List (Key × W)} {i : Nat} {k : Key}, RepK K H ρ st kvs kws → RepK K H ρ st (kvs.set i (k, v)) (kws.set i (k, w))
  | [], [], _, _, _ => trivial
  | (k, v) :: kvs, (j, w) :: kws, 0, _, h => ⟨rfl, r, h.2.2⟩
  | (k, v) :: kvs, (j, w) :: kws, i + 1, _, h => ⟨h.1, h.2.1, RepK.set r h.2.2⟩
  | [], _ :: _, _, _, h => h.elim
  | _ :: _, [], _, _, h => h.elim
theorem RepK.snoc {v : V} {w : W} {k : Key} (r : Rep K H ρ st v w) : ∀ {kvs : List (Key × V)} {kws : List (Key × W)}, RepK K H ρ st kvs kws → RepK K H ρ st (kvs ++ [(k, v)]) (kws ++ [(k, w)])
  | [], [], _ => ⟨rfl, r, trivial⟩
  | (k, v) :: kvs, (j, w) :: kws, h => ⟨h.1, h.2.1, RepK.snoc r h.2.2⟩
  | [], _ :: _, h => h.elim
  | _ :: _, [], h => h.elim
theorem RepK.evo' {H' : Hp} {ρ' : Pl} {st' : Sto} (E : Evo H ρ st H' ρ' st') (L : Liv H ρ st) : ∀ {kvs : List (Key × V)} {kws : List (Key × W)}, RepK K H ρ st kvs kws → RepK K H' ρ' st' kvs kws
  | [], [], _ => trivial
  | (k, v) :: kvs, (j, w) :: kws, h => ⟨h.1, h.2.1.evo E L, RepK.evo' E L h.2.2⟩
  | [], _ :: _, h => h.elim
  | _ :: _, [], h => h.elim
theorem RepK.zip : ∀ {ks : List Key} {vs : List V} {ws : List W}, RepL K H ρ st vs ws → RepK K H ρ st (ks.zip vs) (ks.zip ws)
  | [], _, _, _ => by simp [RepK]
  | _ :: _, [], [], _ => by simp [RepK]
  | k :: ks, v :: vs, w :: ws, .cons h r => ⟨rfl, h, RepK.zip r⟩
end
theorem val_at : ∀ {kvs : List (Key × V)} {j : Nat} {k : Key} {v : V}, kvs[j]? = some (k, v) → k ∉ (kvs.map (·.1)).take j → valV kvs k = some v
  | [], _, _, _, e, _ => by simp at e
  | p :: r, 0, k, v, e, _ => by simp at e; rw [valV_pos (by rw [e])]; rw [e]
  | p :: r, j + 1, k, v, e, n => by
    simp only [List.map_cons, List.take_succ_cons, List.mem_cons, not_or] at n
    rw [valV_neg (Ne.symm n.1)]
    exact val_at (j := j) (by simpa using e) n.2
theorem put_at : ∀ {kvs : List (Key × V)} {j : Nat} {k : Key} {v u : V}, kvs[j]? = some (k, u) → (kvs.map (·.1)).Nodup → putK kvs k v = kvs.set j (k, v) := by
  intro kvs j k v u e nd
  have hin : (kvs.any fun kv => decide (kv.1 = k)) = true := List.any_eq_true.mpr ⟨(k, u), List.mem_of_getElem? e, by simp⟩
  unfold putK
  rw [if_pos hin]
  clear hin
  induction kvs generalizing j with
  | nil => simp at e
  | cons p r ih =>
    rw [List.map_cons, List.nodup_cons] at nd
    cases j with
    | zero =>
      simp at e
      have hr : r.map (fun kv => if kv.1 = k then (kv.1, v) else kv) = r := by
        conv => rhs; rw [← List.map_id r]
        apply List.map_congr_left
        intro q hq
        have : q.1 ≠ k := fun z => nd.1 (by rw [e]; exact List.mem_map.mpr ⟨q, hq, z⟩)
        rw [if_neg this]; rfl
      rw [List.map_cons, hr, e]; simp
    | succ j =>
      have ne : p.1 ≠ k := fun z => nd.1 (by
        have e2 : r[j]? = some (k, u) := by simpa using e
        rw [z]; exact List.mem_map.mpr ⟨(k, u), List.mem_of_getElem? e2, rfl⟩)
      rw [List.map_cons, if_neg ne, ih (by simpa using e) nd.2]; rfl
theorem put_new {kvs : List (Key × V)} {k : Key} {v : V} (n : k ∉ kvs.map (·.1)) : putK kvs k v = kvs ++ [(k, v)] := by
  unfold putK
  rw [if_neg]
  intro h
  obtain ⟨p, hp, e⟩ := List.any_eq_true.mp h
  exact n (List.mem_map.mpr ⟨p, hp, by simpa using e⟩)
/-! ### readings -/
/-- the keys that are there are the first ones of ks -/
def preK (ks : List Key) (kws : List (Key × W)) : Prop := kws.map (·.1) = ks.take kws.length ∧ kws.length ≤ ks.length
def dgW (ks : List Key) (j : Nat) (x : W) (s : Sto) : R W := match x with
  | .loc l => match s[l]? with
    | some (.dct kws) => if ck (preK ks kws) = true then (match kws[j]? with
      | some p => .ok p.2 s
      | none => .no) else .no
    | _ => .no
  | _ => .no
def dpW (ks : List Key) (j : Nat) (k : Key) (x w : W) (s : Sto) : R Unit := match x with
  | .loc l => match s[l]? with
    | some (.dct kws) => if ck (preK ks kws) = true then (if j < kws.length then .ok () (s.set l (.dct (kws.set j (k, w)))) else if j = kws.length then .ok () (s.set l (.dct (kws ++ [(k, w)]))) else .no) else .no
    | _ => .no
  | _ => .no
/-- d[k] = w -/
def dpS (ks : List Key) (j : Nat) (k : Key) (mo mv : Ex) : Sx := fun env st => (mv env st).toS fun w s1 => (mo env s1).toS fun x s2 => (dpW ks j k x w s2).toS fun _ s3 => .nx env s3
section
variable {X : Cx} {C : MC} {E : XK} {o i value e : Expr} {mo mv ma : Ex} {pos pos' : Pos}
/-- where a key stands in the list -/
structure KAt (ks : List Key) (j : Nat) (k : Key) : Prop where
  at_ : ks[j]? = some k
  nd : ks.Nodup
theorem KAt.not {ks : List Key} {j : Nat} {k : Key} (h : KAt ks j k) : k ∉ ks.take j := fun hm => by
  obtain ⟨i, hi, e⟩ := List.getElem_of_mem hm
  rw [List.length_take] at hi
  rw [List.getElem_take] at e
  have hj := (List.getElem?_eq_some_iff.mp h.at_).1
  have e2 := (List.getElem?_eq_some_iff.mp h.at_).2
  have := (List.getElem_inj h.nd).mp (e.trans e2.symm)
  omega
theorem me_dg {ks : List Key} {j : Nat} {k : Str} {kp : Pos} {jj : Nat} (hu : X.A.units + 1 < cLine) (hk : KAt ks j (.inr k)) (ho : ME X C E o mo) (hs : NoSl (.Constant (.str k) jj kp)) : ME X C E (.Subscript o (.Constant (.str k) jj kp) pos) (un (dgW ks j) mo) := by
  refine PE.imp (pe_dget hu ho pe_str hs) fun σ H Q ⟨ρ, st, env, re, S, p⟩ => ⟨ρ, st, env, re, S, Post.bind p fun x s1 H1 ρ1 v _ e1 S1 r1 p1 => ?_⟩
  unfold dgW at p1
  split at p1
  · rename_i l
    split at p1
    · rename_i kws es
      split at p1
      · rename_i hp
        have hp : preK ks kws := ck_iff.mp hp
        split at p1
        · rename_i q hq
          cases r1 with
          | @loc a l ha =>
            obtain ⟨kvs, hz, rk⟩ := S1.obj _ a _ ha es
            obtain ⟨u, hu2, ru⟩ := RepK.get rk hq
            have hjl : j < kws.length := (List.getElem?_eq_some_iff.mp hq).1
            have ek : q.1 = .inr k := by
              have h1 : (kws.map (·.1))[j]? = some q.1 := by rw [List.getElem?_map, hq]; rfl
              rw [hp.1, List.getElem?_take_of_lt hjl, hk.at_] at h1
              exact (Option.some.inj h1).symm
            refine ⟨a, u, rfl, ?_, p1 H1 ρ1 u (Evo.refl ..) S1 ru⟩
            have hv : valV kvs (.inr k) = some u := by
              rw [← ek]
              refine val_at hu2 ?_
              rw [rk.keys, hp.1, ek]
              intro hm
              rw [List.take_take, Nat.min_eq_left (Nat.le_of_lt hjl)] at hm
              exact hk.not hm
            have := DGet.k (a := a) (k := .inr k) hz
            rw [hv] at this
            exact this
        · exact p1.elim
      · exact p1.elim
    · exact p1.elim
  · exact p1.elim
theorem dct_write {H : Hp} {ρ : Pl} {st : Sto} {l : Nat} {a : Addr} {kvs : List (Key × V)} {kws us : List (Key × W)} (S : RelS C H ρ st) (h : ρ.pl[l]? = some a) (e : st[l]? = some (.dct us)) (r : RepK C.K H ρ st kvs kws) :
    Evo H ρ st (upd H a (.dK kvs)) ρ (st.set l (.dct kws)) ∧ RelS C (upd H a (.dK kvs)) ρ (st.set l (.dct kws)) :=
  have ev : Evo H ρ st (upd H a (.dK kvs)) ρ (st.set l (.dct kws)) := Evo.write h e (fun z => nomatch z)
  ⟨ev, S.write h e (fun z => nomatch z) ⟨kvs, upd_same, RepK.evo' ev S.liv r⟩⟩
theorem ms_dp {ks : List Key} {j : Nat} {k : Str} {kp : Pos} {jj : Nat} (hu : X.A.units + 1 < cLine) (hk : KAt ks j (.inr k)) (hs60 : ks.length < 1000) (ho : ME X C E o mo) (hv : ME X C E value mv)
    (hs : swapsWith value (some (.Subscript o (.Constant (.str k) jj kp) pos')) pos.line X.env = pure false := by rfl) :
    MS X C E (.Assign [.Subscript o (.Constant (.str k) jj kp) pos'] value pos) (dpS ks j (.inr k) mo mv) := by
  refine PS.imp (ps_dput hu ho pe_str hv hs) fun D σ H ⟨ρ, st, env, re, S, p⟩ => ⟨ρ, st, env, re, S, PostS.bind p fun w s1 H1 ρ1 v _ e1 S1 r1 p1 => ?_⟩
  have re1 := re.evo e1 S.liv
  refine ⟨ρ1, s1, env, re1, S1, PostS.bind p1 fun x s2 H2 ρ2 u _ e2 S2 r2 p2 => ?_⟩
  have re2 := re1.evo e2 S1.liv
  have rw2 := r1.evo e2 S1.liv
  unfold dpW at p2
  split at p2
  · rename_i l
    split at p2
    · rename_i kws es
      split at p2
      · rename_i hp
        have hp : preK ks kws := ck_iff.mp hp
        cases r2 with
        | @loc a l ha =>
          obtain ⟨kvs, hz, rk⟩ := S2.obj _ a _ ha es
          have hln : kvs.length = kws.length := rk.length
          have h63 : (1000 : Nat) ≤ sizeLine := by decide
          have hl2 : kvs.length < sizeLine := by have := hp.2; omega
          split at p2
          · rename_i hj
            obtain ⟨q, hq⟩ : ∃ q, kws[j]? = some q := ⟨kws[j], List.getElem?_eq_getElem hj⟩
            obtain ⟨u, hu2, ru⟩ := RepK.get rk hq
            have ek : q.1 = .inr k := by
              have h1 : (kws.map (·.1))[j]? = some q.1 := by rw [List.getElem?_map, hq]; rfl
              rw [hp.1, List.getElem?_take_of_lt hj, hk.at_] at h1
              exact (Option.some.inj h1).symm
            rw [ek] at hu2
            have nd : (kvs.map (·.1)).Nodup := by rw [rk.keys, hp.1]; exact hk.nd.sublist (List.take_sublist _ _)
            obtain ⟨ev, S3⟩ := dct_write S2 ha es (RepK.set (k := .inr k) rw2 (i := j) rk)
            refine ⟨a, _, rfl, DPut.k (k := .inr k) (v := v) hz hl2, ?_⟩
            rw [put_at hu2 nd]
            exact p2 _ ρ2 σ ev S3 (re2.evo ev S2.liv)
          · split at p2
            · rename_i hj
              have nk : (Sum.inr k : Key) ∉ kvs.map (·.1) := by
                rw [rk.keys, hp.1, ← hj]; exact hk.not
              obtain ⟨ev, S3⟩ := dct_write S2 ha es (RepK.snoc (k := .inr k) rw2 rk)
              refine ⟨a, _, rfl, DPut.k (k := .inr k) (v := v) hz hl2, ?_⟩
              rw [put_new nk]
              exact p2 _ ρ2 σ ev S3 (re2.evo ev S2.liv)
            · exact p2.elim
      · exact p2.elim
    · exact p2.elim
  · exact p2.elim
/-! ### displays -/
structure MD (X : Cx) (C : MC) (E : XK) (pos : Pos) (keys : List (Option Expr)) (values : List Expr) (ks : List Key) (m : Ax) : Prop where
  ex : ∃ trs, PPs X pos keys values trs ∧ ∀ (σ : St) (H : Hp) (ρ : Pl) (st : Sto) (env : En) (Q : List (V × V) → Hp → Prop), RelE C.K H ρ st σ env → RelS C H ρ st →
    Post (relWs C) C E H ρ st (m env st) (fun vs H' => ks.length = vs.length ∧ Q ((ks.zip vs).map fun p => (kV p.1, p.2)) H') → tPairs trs σ H Q
theorem md_nil : MD X C E pos [] [] [] axn := ⟨[], pps_nil, fun σ H ρ st env Q re S p => (p H ρ [] (Evo.refl ..) S .nil).2⟩
theorem md_cons {k : Str} {jj : Nat} {kp : Pos} {ks' : List (Option Expr)} {vs' : List Expr} {v : Expr} {mv : Ex} {ks : List Key} {m : Ax} (hv : ME X C E v mv) (hr : MD X C E pos ks' vs' ks m) :
    MD X C E pos (some (.Constant (.str k) jj kp) :: ks') (v :: vs') (.inr k :: ks) (axc mv m) := by
  obtain ⟨trs, h1, h2⟩ := hr.ex
  refine ⟨(tC (.str k), tM C E mv) :: trs, pps_cons pe_str hv h1, fun σ H ρ st env Q re S p => ?_⟩
  refine ⟨ρ, st, env, re, S, Post.bind p fun x s1 H1 ρ1 u _ e1 S1 r1 p1 => ?_⟩
  refine h2 σ H1 ρ1 s1 env _ (re.evo e1 S.liv) S1 ?_
  refine Post.bind p1 fun xs s2 H2 ρ2 us _ e2 S2 r2 p2 => ?_
  have q := p2 H2 ρ2 (u :: us) (Evo.refl ..) S2 (.cons (r1.evo e2 S1.liv) r2)
  exact ⟨by have := q.1; simpa using this, q.2⟩
def ddE (ks : List Key) (m : Ax) : Ex := fun env st => (m env st).bind fun ws s => if ws.length = ks.length then .ok (.loc s.length) (s ++ [.dct (ks.zip ws)]) else .no
theorem merge_zip : ∀ (kvs acc : List (Key × V)), ((acc ++ kvs).map (·.1)).Nodup → mergeK acc kvs = acc ++ kvs
  | [], acc, _ => by simp [mergeK]
  | p :: r, acc, nd => by
    have nk : p.1 ∉ acc.map (·.1) := fun hm => by
      rw [List.map_append, List.map_cons] at nd
      exact (List.nodup_append.mp nd).2.2 p.1 hm p.1 (by simp) rfl
    show mergeK (putK acc p.1 p.2) r = _
    rw [put_new nk, merge_zip r _ (by simpa using nd)]
    simp
theorem me_dd {keys : List (Option Expr)} {values : List Expr} {ks : List Key} {m : Ax} (h : MD X C E pos keys values ks m) (nd : ks.Nodup) (hk15 : ks.length ≤ 15) (hall : keys.all (·.isSome) = true) (hl : keys.length = values.length) (h0 : keys ≠ []) (h15 : keys.length ≤ 15) : ME X C E (.Dict keys values pos) (ddE ks m) := by
  obtain ⟨trs, h1, h2⟩ := h.ex
  refine PE.imp (pe_disp h1 hall hl h0 h15) fun σ H Q ⟨ρ, st, env, re, S, p⟩ => fun D hD => ?_
  have ev0 : Evo H ρ st (upd H D (.dK [])) (ρ.hide D) st := Evo.hide hD
  have S0 : RelS C (upd H D (.dK [])) (ρ.hide D) st := S.hide hD trivial
  refine h2 σ _ (ρ.hide D) st env _ (re.evo ev0 S.liv) S0 ?_
  refine Post.bindAt p ev0 fun ws s1 H1 ρ1 vs _ e1 S1 r1 p1 => ?_
  split at p1
  · rename_i hlen
    have hD1 : D ∈ ρ1.hd := e1.oldh D (List.mem_cons_self ..)
    have hvl : ks.length = vs.length := by rw [r1.length]; exact hlen.symm
    have hH1 : H1 D = some (.dK []) := e1.keep D _ upd_same (fun l q => absurd q ((S.fresh hD).1 l))
    have ev := ev0.trans e1
    refine ⟨hvl, hH1, ks.zip vs, rfl, by rw [List.length_zip]; omega, ?_⟩
    have hm : mergeK [] (ks.zip vs) = ks.zip vs := by
      rw [merge_zip]
      · rfl
      · rw [List.nil_append, List.map_fst_zip (by omega)]; exact nd
    rw [hm]
    have S2 : RelS C (upd H1 D (.dK (ks.zip vs))) ρ1 s1 := S1.hidw hD1 trivial
    have rk : RepK C.K (upd H1 D (.dK (ks.zip vs))) ρ1 s1 (ks.zip vs) (ks.zip ws) := RepK.zip (r1.hidw hD1 ⟨_, hH1, trivial⟩)
    refine p1 _ ((ρ1.show D).add D) _ ⟨fun l a h => ?_, fun l h => ?_, fun a o h nl => ?_, fun l a h => ?_, fun a h => ?_, fun a h => ev.newh a (show_sub h), fun a h => show_mem (ev.oldh a h) fun z => ?_⟩ (S2.placedD hD1 upd_same rk) ?_
    · exact add_old (ρ := ρ1.show D) (ev.pre l a h)
    · rw [List.getElem?_append_left (List.getElem?_eq_some_iff.mp (ev.dd l h)).1]
      exact ev.dd l h
    · rw [upd_ne (ne_of_none h hD)]
      exact ev.keep a o h nl
    · rcases add_at (ρ := ρ1.show D) h with h | ⟨_, h⟩
      · exact ev.new l a h
      · rw [h]; exact .inr hD
    · by_cases z : a = D
      · rw [z]; exact hD
      · rw [upd_ne z] at h; exact ev.dom a h
    · obtain ⟨⟨u, e, _⟩, _⟩ := S.hid a h
      rw [z, hD] at e; cases e
    · refine .loc ?_
      rw [← S1.len]
      exact add_new (ρ := ρ1.show D)
  · exact p1.elim
/-! ### how it computes -/
def dctO (ks : List Key) (ws : List W) : O := .dct (ks.zip ws)
theorem zip_len {ks : List Key} {ws : List W} (hl : ws.length ≤ ks.length) : (ks.zip ws).length = ws.length := by rw [List.length_zip]; omega
theorem zip_pre {ks : List Key} {ws : List W} (hl : ws.length ≤ ks.length) : preK ks (ks.zip ws) := by
  refine ⟨?_, by rw [zip_len hl]; exact hl⟩
  rw [zip_len hl]
  induction ks generalizing ws with
  | nil => simp
  | cons k ks ih =>
    cases ws with
    | nil => simp
    | cons w ws => simp [ih (ws := ws) (by simpa using hl)]
theorem zip_get {ks : List Key} {ws : List W} {j : Nat} {w : W} (hl : ws.length ≤ ks.length) (hj : ws[j]? = some w) : ∃ k, (ks.zip ws)[j]? = some (k, w) := by
  have h1 := (List.getElem?_eq_some_iff.mp hj).1
  have h2 : j < ks.length := by omega
  refine ⟨ks[j], List.getElem?_zip_eq_some.mpr ⟨List.getElem?_eq_getElem h2, hj⟩⟩
theorem zip_set {ks : List Key} {ws : List W} {j : Nat} {k : Key} {w : W} (hk : ks[j]? = some k) : (ks.zip ws).set j (k, w) = ks.zip (ws.set j w) := by
  induction ks generalizing ws j with
  | nil => simp
  | cons a ks ih =>
    cases ws with
    | nil => simp
    | cons b ws =>
      cases j with
      | zero => simp at hk; subst hk; simp
      | succ j => simp [ih (ws := ws) (by simpa using hk)]
theorem zip_snoc {ks : List Key} {ws : List W} {k : Key} {w : W} (hk : ks[ws.length]? = some k) : ks.zip ws ++ [(k, w)] = ks.zip (ws ++ [w]) := by
  induction ks generalizing ws with
  | nil => simp at hk
  | cons a ks ih =>
    cases ws with
    | nil => simp at hk; subst hk; simp
    | cons b ws => simp [ih (ws := ws) (by simpa using hk)]
theorem dg_ok {ks : List Key} {ws : List W} {s : Sto} {l j : Nat} {w : W} (h : s[l]? = some (dctO ks ws)) (hl : ws.length ≤ ks.length) (hj : ws[j]? = some w) : dgW ks j (.loc l) s = .ok w s := by
  obtain ⟨k, hk⟩ := zip_get hl hj
  unfold dgW dctO at *
  simp only [h]
  rw [if_pos (ck_iff.mpr (zip_pre hl)), hk]
theorem dp_set {ks : List Key} {ws : List W} {s : Sto} {l j : Nat} {k : Key} {w : W} (h : s[l]? = some (dctO ks ws)) (hl : ws.length ≤ ks.length) (hj : j < ws.length) (hk : ks[j]? = some k) : dpW ks j k (.loc l) w s = .ok () (s.set l (dctO ks (ws.set j w))) := by
  unfold dpW dctO at *
  simp only [h]
  rw [if_pos (ck_iff.mpr (zip_pre hl)), zip_len hl, if_pos hj, zip_set hk]
theorem dp_new {ks : List Key} {ws : List W} {s : Sto} {l j : Nat} {k : Key} {w : W} (h : s[l]? = some (dctO ks ws)) (hl : ws.length ≤ ks.length) (hj : j = ws.length) (hk : ks[j]? = some k) : dpW ks j k (.loc l) w s = .ok () (s.set l (dctO ks (ws ++ [w]))) := by
  subst hj
  unfold dpW dctO at *
  simp only [h]
  rw [if_pos (ck_iff.mpr (zip_pre hl)), zip_len hl, if_neg (by omega), if_pos rfl, zip_snoc hk]
theorem dd_ok {ks ks' : List Key} {m : Ax} {env : En} {st s : Sto} {ws : List W} (h : m env st = .ok ws s) (hl : ws.length = ks'.length) (hk : ks' = ks.take ks'.length) : ddE ks' m env st = .ok (.loc s.length) (s ++ [dctO ks ws]) := by
  unfold ddE
  rw [h, R.bind_ok, if_pos hl]
  congr 3
  show O.dct _ = O.dct _
  congr 1
  rw [hk]
  clear hk h
  induction ks generalizing ks' ws with
  | nil => simp
  | cons a ks ih =>
    cases ws with
    | nil => simp
    | cons b ws =>
      cases ks' with
      | nil => simp at hl
      | cons c ks' => simp at hl ⊢; exact ih hl
end
end
end ML

/-! ML19: errors: raise, try .. except, isinstance of an error, defs that may raise; f-strings -/
namespace ML
open PySem L2
noncomputable section

/-! ### nothing raised -/
def R.nox {α : Type} (r : R α) : R α := match r with
  | .ok a s => .ok a s
  | _ => .no
@[simp] theorem R.nox_ok {α : Type} (a : α) (s : Sto) : (R.ok a s).nox = .ok a s := rfl
@[simp] theorem R.nox_no {α : Type} : (R.no : R α).nox = .no := rfl
@[simp] theorem R.nox_ite {α : Type} (c : Prop) [Decidable c] (a b : R α) : (if c then a else b).nox = if c then a.nox else b.nox := by split <;> rfl
def SR.nox (r : SR) : SR := match r with
  | .ex _ _ => .no
  | r => r
@[simp] theorem SR.nox_nx (e : En) (s : Sto) : (SR.nx e s).nox = .nx e s := rfl
@[simp] theorem SR.nox_rt (e : W) (s : Sto) : (SR.rt e s).nox = .rt e s := rfl
@[simp] theorem SR.nox_bk (e : En) (s : Sto) : (SR.bk e s).nox = .bk e s := rfl
@[simp] theorem SR.nox_ct (e : En) (s : Sto) : (SR.ct e s).nox = .ct e s := rfl
@[simp] theorem SR.nox_no : SR.no.nox = .no := rfl
@[simp] theorem SR.nox_ite (c : Prop) [Decidable c] (a b : SR) : (if c then a else b).nox = if c then a.nox else b.nox := by split <;> rfl
def nxA (m : Ax) : Ax := fun env st => (m env st).nox
def nxE (m : Ex) : Ex := fun env st => (m env st).nox
def nxS (m : Sx) : Sx := fun env st => (m env st).nox
section
variable {α β : Type} {rel : Hp → Pl → Sto → β → α → Prop} {C : MC} {E : XK} {H : Hp} {ρ : Pl} {st : Sto}
theorem Post.nox {r : R α} {Q : β → Hp → Prop} (h : Post rel C E H ρ st r.nox Q) : Post rel C E0 H ρ st r Q := by
  cases r with
  | ok w s => exact h
  | ex c s => exact False.elim h
  | no => exact h
theorem PostS.nox {r : SR} {D : Ends} (h : PostS C E H ρ st r.nox D) : PostS C E0 H ρ st r D := by
  cases r with
  | ex c s => exact False.elim h
  | nx _ _ => exact h
  | rt _ _ => exact h
  | bk _ _ => exact h
  | ct _ _ => exact h
  | no => exact h
end
section
variable {X : Cx} {C : MC} {E : XK}
theorem PS.nox {s : Stmt} {t : TS} (h : PS X.nox s t) : PS X s t := ⟨fun pins s σ H D I hw =>
  wpAny_mono (h.run pins s σ H D (I.wish _) hw) (fun _ _ q => q.unwish) fun _ _ z => False.elim z⟩
theorem me_nx {e : Expr} {m : Ex} (h : ME X.nox C E0 e m) : ME X C E e (nxE m) :=
  PE.imp (PE.nox h) fun σ H Q ⟨ρ, st, env, re, S, p⟩ => ⟨ρ, st, env, re, S, Post.nox p⟩
theorem ms_nx {s : Stmt} {m : Sx} (h : MS X.nox C E0 s m) : MS X C E s (nxS m) :=
  PS.imp (PS.nox h) fun D σ H ⟨ρ, st, env, re, S, p⟩ => ⟨ρ, st, env, re, S, PostS.nox p⟩
theorem mss_nx {s : List Stmt} {m : Sx} (h : MSs X.nox C E0 s m) : MSs X C E s (nxS m) :=
  PSs.imp (PSs.nox h) fun D σ H ⟨ρ, st, env, re, S, p⟩ => ⟨ρ, st, env, re, S, PostS.nox p⟩
end

/-! ### f-strings -/
def fmE (m : Ex) : Ex := fun env st => (m env st).bind fun w s => match w with
  | .int i => if ck (i.natAbs.log2 < 1920) then .ok (.str (toString i)) s else .no
  | .str y => if ck (y.length ≤ sizeLine) then .ok (.str y) s else .no
  | _ => .no
def jsX : List Ex → Str → En → Sto → R W
  | [], acc, _, s => .ok (.str acc) s
  | m :: ms, acc, env, s => (m env s).bind fun w s1 => match w with
    | .str y => if ck ((acc ++ y).length ≤ sizeLine) then jsX ms (acc ++ y) env s1 else .no
    | _ => .no
def jsE (ms : List Ex) : Ex := fun env st => jsX ms Str.empty env st
section
variable {X : Cx} {C : MC} {E : XK}
theorem me_fmt {e : Expr} {m : Ex} {pos : Pos} (h : ME X C E e m) : ME X C E (.FormattedValue e (-1) none pos) (fmE m) := by
  refine PE.imp (pe_fmt h) fun σ H Q ⟨ρ, st, env, re, S, p⟩ => ⟨ρ, st, env, re, S, Post.bind p fun w s1 H1 ρ1 v _ e1 S1 r1 p1 => ?_⟩
  cases r1 with
  | int i =>
    dsimp only at p1
    by_cases c : ck (i.natAbs.log2 < 1920) = true
    · rw [if_pos c] at p1
      exact .inr ⟨i, rfl, ck_iff.mp c, p1 H1 ρ1 _ (Evo.refl ..) S1 (.str _)⟩
    · rw [if_neg c] at p1; exact p1.elim
  | str y =>
    dsimp only at p1
    by_cases c : ck (y.length ≤ sizeLine) = true
    · rw [if_pos c] at p1
      exact .inl ⟨y, rfl, ck_iff.mp c, p1 H1 ρ1 _ (Evo.refl ..) S1 (.str _)⟩
    · rw [if_neg c] at p1; exact p1.elim
  | non => exact p1.elim
  | bl _ => exact p1.elim
  | raw _ => exact p1.elim
  | tup _ _ => exact p1.elim
  | fl _ _ _ => exact p1.elim
  | kl _ _ => exact p1.elim
  | loc _ => exact p1.elim
/-- the parts of an f-string -/
inductive MJ (X : Cx) (C : MC) (E : XK) : List Expr → List Ex → Prop where
  | nil : MJ X C E [] []
  | cons {e : Expr} {m : Ex} {es : List Expr} {ms : List Ex} (h : ME X C E e m) (r : MJ X C E es ms) : MJ X C E (e :: es) (m :: ms)
theorem MJ.pj {es : List Expr} {ms : List Ex} (h : MJ X C E es ms) : PJ X es (ms.map (tM C E)) := by
  induction h with
  | nil => exact .nil
  | cons h r ih => exact .cons h ih
theorem js_of : ∀ (ms : List Ex) (acc : Str) (σ : St) (env : En) (H : Hp) (ρ : Pl) (st : Sto) (Q : Str → Hp → Prop) (Q' : VK), RelE C.K H ρ st σ env → RelS C H ρ st → Post (relW C) C E H ρ st (jsX ms acc env st) Q' → (∀ y H, Q' (.str y) H → Q y H) → tJs (ms.map (tM C E)) acc σ H Q
  | [], acc, σ, env, H, ρ, st, Q, Q', re, S, p, k => k _ _ (p H ρ _ (Evo.refl ..) S (.str _))
  | m :: ms, acc, σ, env, H, ρ, st, Q, Q', re, S, p, k => ⟨ρ, st, env, re, S, Post.bind p fun w s1 H1 ρ1 v _ e1 S1 r1 p1 => by
      cases r1 with
      | str y =>
        dsimp only at p1
        by_cases c : ck ((acc ++ y).length ≤ sizeLine) = true
        · rw [if_pos c] at p1
          exact ⟨y, rfl, ck_iff.mp c, js_of ms (acc ++ y) σ env H1 ρ1 s1 Q Q' (re.evo e1 S.liv) S1 p1 k⟩
        · rw [if_neg c] at p1; exact p1.elim
      | int i => exact p1.elim
      | non => exact p1.elim
      | bl _ => exact p1.elim
      | raw _ => exact p1.elim
      | tup _ _ => exact p1.elim
      | fl _ _ _ => exact p1.elim
      | kl _ _ => exact p1.elim
      | loc _ => exact p1.elim⟩
theorem me_joined {v1 v2 : Expr} {rest : List Expr} {ms : List Ex} {pos : Pos} (h : MJ X C E (v1 :: v2 :: rest) ms) : ME X C E (.JoinedStr (v1 :: v2 :: rest) pos) (jsE ms) :=
  PE.imp (pe_joined h.pj) fun σ H Q ⟨ρ, st, env, re, S, p⟩ => js_of ms Str.empty σ env H ρ st _ Q re S p fun _ _ q => q
end

/-! ### raise -/
def raS (c : Nat) (mr : Ax) : Sx := fun env st => (mr env st).toS fun _ s => .ex c s
section
variable {X : Cx} {C : MC} {E : XK}
theorem ms_raise {c : Nat} {Cd : Addr} {bmB : List Value} {B newId initId : String} {x : Str} {p pos pos' : Pos} {e : Expr} {es : List Expr} {mr : Ax} (hc : X.calm = true) (tk : Takes X (fun cls d _ H => E cls d H)) (hx : C.exn[c]? = some Cd)
    (F : ExcBaseFacts B newId initId bmB) (q : PySem.W.excIn X.K Cd bmB newId = true) (gC : X.mg x = some (.ref Cd)) (kC : PySem.W.keepIn X.K (.ref Cd) = true) (r1 : PySem.W.subIn X.K (.ref Cd) (.type "BaseException") = some true) (r2 : PySem.W.typeIn X.K (.ref Cd) = some (.type "type"))
    (hg : Gl X x) (ha : MA' X C E (e :: es) mr) (hl : (e :: es).length ≤ 1000 := by decide) (hdb : (x == ("__debug__" : Str)) = false := by decide)
    (he : starEach (e :: es) X.env = (false, eval e X.env) :: starEach es X.env := by rfl) (hpl : (backTo pos (starEach es X.env)).any (·.1) = false := by rfl) :
    MS X C E (.Raise (some (.Call (.Name x p) (e :: es) [] pos)) none pos') (raS c mr) := by
  refine PS.imp (ps_raise hc tk (pmk_ownA F q gC kC (raises_own r1 r2) hg ha.pa hdb he hpl)) fun D σ H ⟨ρ, st, env, re, S, p⟩ => ⟨ρ, st, env, re, S, PostS.bind p fun ws s1 H1 ρ1 vs hw e1 S1 q1 p1 => ⟨?_, ?_⟩⟩
  · rw [q1.length, ha.ln _ _ _ _ hw]
    exact Nat.le_trans hl (by decide)
  · exact p1 H1 ρ1 _ (Evo.refl ..) S1 hx
end

/-! ### defs that may raise -/
def spX (C : MC) (n : Nat) (d : List W → Sto → R W) : Sp := fun vs H Q E => vs.length = n ∧ ∃ ρ st ws, RepL C.K H ρ st vs ws ∧ RelS C H ρ st ∧ Post (relW C) C E H ρ st (d ws st) Q
theorem fn_okX {P : Program} {w : World} {K : PySem.W.Frag} {mg : Str → Option Value} {base : Heap} {C : MC} {k n : Nat} {f : Addr} {x qual : Str} {s : Stmt} {fd : FuncData} {N ps : List Str} {m : Sx} (F : Fun K x qual s f fd) (S : FnScope N ps (defScope s)) (hK : C.K = K) (hn : ps.length = n)
    (body : ∀ (cdv : Value) (A : Around) (outer : List Env) (sh : Shared) (H : Hp) (E : XK), Room k (A.deeper (PyProof.Rows.envOfC qual (defScope s) sh.heap.objs.size f cdv)) → MSs (cxOf (L2.CX P w) P w K mg base N qual (defScope s) f cdv A outer sh H E) C E (defBody s) m) :
    FnOk P w K mg base (L2.CX P w) (k + 1) f fd ps (spX C n (bodyD N.length m)) := by
  refine F.okX S (fun vs H Q E h => by rw [hn]; exact h.1) fun cdv A outer sh H vs Q E hr ⟨hl, ρ, st, ws, r, S, p⟩ => ⟨tMS C E m, body cdv A outer sh H E hr, ρ, st, pad N.length ws, .start r, S, ?_⟩
  unfold bodyD at p
  cases h : m (pad N.length ws) st with
  | nx e s => rw [h] at p; exact fun H' ρ' σ' e' S' _ => p H' ρ' .non e' S' .non
  | rt w s => rw [h] at p; exact p
  | ex c s => rw [h] at p; exact p
  | bk e s => rw [h] at p; exact p.elim
  | ct e s => rw [h] at p; exact p.elim
  | no => rw [h] at p; exact p.elim
/-- as fn_gz -/
theorem fn_gzX {P : Program} {w : World} {K : PySem.W.Frag} {mg : Str → Option Value} {base : Heap} {CX : CXT} {C : MC} {k n : Nat} {f : Addr} {fd : FuncData} {ps : List Str} {d d' : List W → Sto → R W} (F : FnOk P w K mg base CX k f fd ps (spX C n d)) (g : Gz n d d') :
    FnOk P w K mg base CX k f fd ps (spX C n d') := by
  refine F.imp fun vs H Q E ⟨hl, ρ, st, ws, r, S, p⟩ => ⟨hl, ρ, st, ws, r, S, ?_⟩
  have q := g ws st (by rw [← r.length]; exact hl) (by rw [← S.len]; exact r.wf)
  cases e : d' ws st with
  | no => rw [e] at p; exact p.elim
  | ex c s => rw [e] at p q; rw [q]; exact p
  | ok x st' =>
    rw [e] at p q
    obtain ⟨w0, s2, kk, h1, h2, h3, h4⟩ := q
    rw [h1]
    intro H' ρ' v ev S' rv
    have c : Cut ρ' (st' ++ s2) st'.length ⟨ρ'.pl.take st'.length, ρ'.hd⟩ st' := by
      have ln := S'.len
      rw [List.length_append] at ln
      refine ⟨fun l hl => by simp [List.getElem?_take, hl], fun l hl => by rw [List.getElem?_append_left hl], ?_, rfl, rfl⟩
      show (ρ'.pl.take st'.length).length = _
      rw [List.length_take]
      omega
    refine p H' ⟨ρ'.pl.take st'.length, ρ'.hd⟩ v ⟨fun l a h => ?_, fun l h => ?_, ev.keep, fun l a h => ?_, ev.dom, ev.newh, ev.oldh⟩ (S'.cut c fun l o e2 => ?_) (fz_rep S' c kk v w0 x rv h3)
    · have hl : l < st'.length := by
        have := (List.getElem?_eq_some_iff.mp h).1
        rw [S.len] at this
        omega
      rw [c.pl l hl]
      exact ev.pre l a h
    · have hl : l < st'.length := by
        have := (List.getElem?_eq_some_iff.mp h).1
        omega
      rw [c.st l hl]
      exact ev.dd l h
    · have hl := (List.getElem?_eq_some_iff.mp h).1
      rw [c.lp] at hl
      rw [c.pl l hl] at h
      exact ev.new l a h
    · rcases h4 l o e2 with q | q
      · exact O.wf_mono h2 (S.wf q)
      · exact q

/-! ### calls of defs that may raise -/
section
variable {X : Cx} {C : MC} {e : Expr} {es : List Expr} {mr : Ax} {k : Nat} {f : Addr} {fd : FuncData} {ps : List Str} {x : Str} {p pos : Pos} {d : List W → Sto → R W}
/-- nothing is raised here -/
theorem me_callX {n : Nat} (F : FnOk X.prog X.w X.K X.mg X.base (L2.CX X.prog X.w) k f fd ps (spX C n d)) (hr : Room k X.A) (hg : Gl X x) (hm : X.mg x = some (.ref f)) (hk : PySem.W.keepIn X.K (.ref f) = true) (hb : Binds X.K fd ps []) (hn : (e :: es).length = n)
    (ha : MA' X C E0 (e :: es) mr) (hdb : (x == ("__debug__" : Str)) = false := by decide) (he : starEach (e :: es) X.env = (false, eval e X.env) :: starEach es X.env := by rfl) (hpl : (backTo pos (starEach es X.env)).any (·.1) = false := by rfl) :
    ME X C E0 (.Call (.Name x p) (e :: es) [] pos) (clE d mr) := by
  refine PE.imp (pe_call F hr hg hm hk hb .nil passL ha.pa hdb he hpl) fun σ H Q ⟨ρ, st, env, re, S, p⟩ => ⟨ρ, st, env, re, S, Post.bind p fun ws s1 H1 ρ1 vs hw e1 S1 r1 p1 => ?_⟩
  rw [List.append_nil]
  exact ⟨by rw [r1.length, ha.ln _ _ _ _ hw, hn], ρ1, s1, ws, r1, S1, p1⟩
def tMW (C : MC) (Wx : WX) (m : Ex) : TE := fun σ H Q => tM C (WE Wx σ) m σ H Q
def tMSW (C : MC) (Wx : WX) (m : Sx) : TS := fun D σ H => tMS C (WE Wx σ) m D σ H
theorem nox_eq {α : Type} {r : R α} {a : α} {s : Sto} (h : r.nox = .ok a s) : r = .ok a s := by
  cases r with
  | ok b t => exact h
  | ex c t => cases h
  | no => cases h
/-- in a try, or in a def that may raise -/
theorem mew_call {Wx : WX} {n : Nat} (tk : Takes X Wx) (F : FnOk X.prog X.w X.K X.mg X.base (L2.CX X.prog X.w) k f fd ps (spX C n d)) (hr : Room k X.A) (hg : Gl X x) (hm : X.mg x = some (.ref f)) (hk : PySem.W.keepIn X.K (.ref f) = true) (hb : Binds X.K fd ps []) (hn : (e :: es).length = n)
    (ha : MA' X C E0 (e :: es) mr) (hdb : (x == ("__debug__" : Str)) = false := by decide) (he : starEach (e :: es) X.env = (false, eval e X.env) :: starEach es X.env := by rfl) (hpl : (backTo pos (starEach es X.env)).any (·.1) = false := by rfl) :
    PE X (.Call (.Name x p) (e :: es) [] pos) (tMW C Wx (clE d (nxA mr))) := by
  refine PE.imp (pe_callS F hr hg hm hk hb (fun σ => passAt tk σ) ha.pa hdb he hpl) fun σ H Q ⟨ρ, st, env, re, S, p⟩ => ⟨ρ, st, env, re, S, Post.nox (E := WE Wx σ) (Post.bind p fun ws s1 H1 ρ1 vs hw e1 S1 r1 p1 => ?_)⟩
  exact ⟨by rw [r1.length, ha.ln _ _ _ _ (nox_eq hw), hn], ρ1, s1, ws, r1, S1, p1⟩
end
/-! ### try -/
section
variable {X : Cx} {C : MC} {Wx : WX} {e : Expr} {m : Ex} {m1 m2 : Sx} {s : Stmt} {ss : List Stmt} {pos : Pos}
theorem msw_expr (h : PE X e (tMW C Wx m)) (hs : swapsWith e none pos.line X.env = pure false := by rfl) : PS X (.Expr e pos) (tMSW C Wx (exS m)) :=
  PS.imp (ps_expr h hs) fun D σ H ⟨ρ, st, env, re, S, p⟩ => ⟨ρ, st, env, re, S, PostS.bind p fun w s1 H1 ρ1 v hw e1 S1 r1 p1 => p1 H1 ρ1 σ (Evo.refl ..) S1 (re.evo e1 S.liv)⟩
theorem msw_ret (h : PE X e (tMW C Wx m)) : PS X (.Return (some e) pos) (tMSW C Wx (rtS m)) :=
  PS.imp (ps_ret h) fun D σ H ⟨ρ, st, env, re, S, p⟩ => ⟨ρ, st, env, re, S, PostS.bind p fun w s1 H1 ρ1 v hw e1 S1 r1 p1 => p1 H1 ρ1 v (Evo.refl ..) S1 r1⟩
theorem mssw_one (h : PS X s (tMSW C Wx m1)) : PSs X [s] (tMSW C Wx m1) := pss_one h
theorem mssw_cons (h1 : PS X s (tMSW C Wx m1)) (h2 : MSs X.nox C E0 ss m2) : PSs X (s :: ss) (tMSW C Wx (sqS m1 (nxS m2))) := by
  refine PSs.imp (pss_cons h1 (PSs.nox h2)) fun D σ H ⟨ρ, st, env, re, S, p⟩ => ⟨ρ, st, env, re, S, ?_⟩
  unfold sqS at p
  cases h : m1 env st with
  | nx env' st' => rw [h] at p; exact fun H' ρ' σ' e' S' re' => ⟨ρ', st', env', re', S', PostS.nox (PostS.shift p e')⟩
  | rt w st' => rw [h] at p; exact p
  | bk w st' => rw [h] at p; exact p
  | ct w st' => rw [h] at p; exact p
  | ex c st' => rw [h] at p; exact p
  | no => rw [h] at p; exact p
/-- (f(..), e): a call first, then what raises nothing -/
def tpWE (m : Ex) (mr : Ax) : Ex := fun env st => (m env st).bind fun w s => ((mr env s).nox).bind fun ws s1 => .ok (.tup (w :: ws)) s1
theorem mew_tup {a : Expr} {es : List Expr} {mr : Ax} {x1 : Nat} (h : PE X a (tMW C Wx m)) (hr : MA' X.nox C E0 es mr) (hl : (a :: es).length ≤ 1000 := by decide) (hs : starEach (a :: es) X.env = (false, eval a X.env) :: starEach es X.env := by rfl) :
    PE X (.Tuple (a :: es) x1 pos) (tMW C Wx (tpWE m mr)) := by
  have hpa : PA X es (tMA C E0 mr) := ⟨fun ps pins s σ H Q I hw => wpAny_mono (hr.pa.run ps pins s σ H Q (I.wish _) hw) (fun _ _ ⟨v, H', I', r, q⟩ => ⟨v, H', I'.unwish, r, q⟩) fun _ _ z => False.elim z⟩
  refine PE.imp (pe_tup (pa_cons h hpa hs)) fun σ H Q ⟨ρ, st, env, re, S, p⟩ => ⟨ρ, st, env, re, S, Post.bind p fun x s1 H1 ρ1 v hx e1 S1 r1 p1 => ?_⟩
  refine ⟨ρ1, s1, env, re.evo e1 S.liv, S1, Post.nox (E := WE Wx σ) (Post.bind p1 fun xs s2 H2 ρ2 vs hx2 e2 S2 r2 p2 => ⟨?_, fun q hq => ?_⟩)⟩
  · rw [List.length_cons, r2.length, hr.ln _ _ _ _ (nox_eq hx2)]
    exact Nat.le_trans hl (by decide)
  · exact p2 _ ρ2 _ (Evo.laid hq) (S2.laid hq) (tup_new S2 hq (.cons (r1.evo e2 S1.liv) r2))
end
/-- what does not ask where the error lies -/
def allA (f : Addr → SR) : SR := open Classical in if h : ∃ r, ∀ a, f a = r then choose h else .no
@[simp] theorem allA_const (r : SR) : allA (fun _ => r) = r := by
  unfold allA
  have h : ∃ r', ∀ _ : Addr, r = r' := ⟨r, fun _ => rfl⟩
  rw [dif_pos h]
  exact (Classical.choose_spec h 0).symm
theorem allA_at {C : MC} {E : XK} {H : Hp} {ρ : Pl} {st : Sto} {D : Ends} {f : Addr → SR} (h : PostS C E H ρ st (allA f) D) (a : Addr) : PostS C E H ρ st (f a) D := by
  unfold allA at h
  split at h
  · rename_i q
    rw [Classical.choose_spec q a]
    exact h
  · exact h.elim
/-- behind the suite the error's name is gone -/
def clrS (i : Nat) (r : SR) : SR := match r with
  | .nx e s => .nx (e.set i none) s
  | .bk e s => .bk (e.set i none) s
  | .ct e s => .ct (e.set i none) s
  | .rt w s => .rt w s
  | _ => .no
@[simp] theorem clrS_nx (i : Nat) (e : En) (s : Sto) : clrS i (.nx e s) = .nx (e.set i none) s := rfl
@[simp] theorem clrS_rt (i : Nat) (e : W) (s : Sto) : clrS i (.rt e s) = .rt e s := rfl
def tryAS (hit : Nat → Bool) (i : Nat) (mb : Sx) (msu : Nat → Addr → Sx) : Sx := fun env st => match mb env st with
  | .ex c s => if hit c = true then allA fun a => clrS i (msu c a (env.set i (some (.raw (.ref a)))) s) else .no
  | r => r
def tryS (hit : Nat → Bool) (mb msu : Sx) : Sx := fun env st => match mb env st with
  | .ex c s => if hit c = true then nxS msu env s else .no
  | r => r
section
variable {X : Cx} {C : MC} {E : XK}
theorem RelE.unset {K : PySem.W.Frag} {H : Hp} {ρ : Pl} {st : Sto} {σ : St} {env : En} (h : RelE K H ρ st σ env) (i : Nat) : RelE K H ρ st (σ.set i none) (env.set i none) := by
  refine ⟨by simp [h.1], fun j x e => ?_⟩
  by_cases z : i = j
  · subst z
    have hi : i < env.length := by
      have := (List.getElem?_eq_some_iff.mp e).1
      simpa using this
    rw [List.getElem?_set_self hi] at e
    cases e
  · rw [List.getElem?_set_ne z] at e
    obtain ⟨v, q, r⟩ := h.2 j x e
    exact ⟨v, by rw [List.getElem?_set_ne z]; exact q, r⟩
theorem xm_of {K : PySem.W.Frag} {A D : Addr} {b : Bool} (se : PySem.W.subIn K (.ref D) (.type "BaseException") = some true) (ci : PySem.W.isClsIn K D = true) (ti : PySem.W.typeIn K (.ref D) = some (.type "type")) (h4 : PySem.W.subIn K (.ref A) (.ref D) = some b) :
    PySem.W.exmOne K (.ref A) (.ref D) = some b := by
  have e1 : (PySem.W.subIn K (.ref D) (.type "BaseException") == some true) = true := by rw [se] <;> rfl
  have e2 : ((PySem.W.clsIn K D).isSome && PySem.W.typeIn K (.ref D) == some (.type "type")) = true := by
    have h2' : (PySem.W.clsIn K D).isSome = true := ci
    rw [h2', ti] <;> rfl
  show (if (PySem.W.subIn K (.ref D) (.type "BaseException") == some true) = true then (if ((PySem.W.clsIn K D).isSome && PySem.W.typeIn K (.ref D) == some (.type "type")) = true then PySem.W.subIn K (.ref A) (.ref D) else none) else none) = some b
  rw [if_pos e1, if_pos e2]
  exact h4
theorem ms_try_as {hit : Nat → Bool} {x n : Str} {c : Value} {i : Nat} {body suite : List Stmt} {b₀ : Stmt} {np pos pos' : Pos} {mb : Sx} {msu : Nat → Addr → Sx} (hs : X.stack = X.env :: X.outer) (hf : X.env.frame = some X.env.locals) (hN : X.N.Nodup) (hi : X.N[i]? = some n) (hln : X.env.kindOf n = some .local) (hc : Names X x c)
    (hx : ∀ (cc : Nat) (Ac : Addr), C.exn[cc]? = some Ac → PySem.W.exmOne X.K (.ref Ac) c = some (hit cc))
    (hb : ∀ (Wx : WX) (pn : List (Addr × Obj)) (xe : Value → Shared → Prop), Takes (X.tr pn xe) Wx → PSs (X.tr pn xe) body (tMSW C Wx mb))
    (hsu : ∀ (cc : Nat) (Ac : Addr), C.exn[cc]? = some Ac → ∀ (a : Addr) (oe : Obj) (pn : List (Addr × Obj)), Zc (.ref Ac) none oe → (∃ vs, oe.data = .fields vs) → MSs (X.suite a ((a, oe) :: pn)) C E0 (b₀ :: suite) (msu cc a)) :
    MS X C E (.Try body [.ExceptHandler (some (.Name x np)) (some n) (b₀ :: suite) pos'] [] [] pos) (tryAS hit i mb msu) := by
  refine PS.imp (ps_try_as (tb := fun Wx => tMSW C Wx mb) (ts := fun a cls d D σ H => ∃ cc Ac, C.exn[cc]? = some Ac ∧ cls = .ref Ac ∧ d = none ∧ tMS C E0 (msu cc a) D σ H) (Wout := fun _ _ _ _ => False) hs hf hN hi hln hc takes0
    (fun Wx pn xe tk _ => hb Wx pn xe tk) (fun a oe cls d pn hz hfi => ⟨fun pins s σ H D I ⟨cc, Ac, h1, h2, h3, h4⟩ => ?_⟩)) fun D σ H ⟨ρ, st, env, re, S, p⟩ => ⟨ρ, st, env, re, S, ?_⟩
  · subst h2 h3
    exact (hsu cc Ac h1 a oe pn hz hfi).run pins s σ H D I h4
  · unfold tryAS at p
    cases h : mb env st with
    | nx e s => rw [h] at p; exact p
    | rt e s => rw [h] at p; exact p
    | bk e s => rw [h] at p; exact p
    | ct e s => rw [h] at p; exact p
    | no => rw [h] at p; exact p
    | ex cc s =>
      rw [h] at p
      dsimp only at p
      intro H' ρ' Ac e' S' hA
      by_cases q : hit cc = true
      · rw [if_pos q] at p
        refine ⟨true, by rw [hx cc Ac hA, q], fun _ a na => ⟨cc, Ac, hA, rfl, rfl, ρ', s, _, (re.evo e' S.liv).set (.raw (.ref a)) i, S', ?_⟩, fun z => nomatch z⟩
        have p1 := PostS.shift (allA_at p a) e'
        cases g : msu cc a (env.set i (some (.raw (.ref a)))) s with
        | nx e s => rw [g] at p1; exact fun H2 ρ2 σ2 e2 S2 re2 => p1 H2 ρ2 _ e2 S2 (re2.unset i)
        | bk e s => rw [g] at p1; exact fun H2 ρ2 σ2 e2 S2 re2 => p1 H2 ρ2 _ e2 S2 (re2.unset i)
        | ct e s => rw [g] at p1; exact fun H2 ρ2 σ2 e2 S2 re2 => p1 H2 ρ2 _ e2 S2 (re2.unset i)
        | rt e s => rw [g] at p1; exact p1
        | ex c s => rw [g] at p1; exact p1.elim
        | no => rw [g] at p1; exact p1.elim
      · rw [if_neg q] at p; exact p.elim
theorem ms_try_only {hit : Nat → Bool} {x : Str} {c : Value} {body suite : List Stmt} {b₀ : Stmt} {np pos pos' : Pos} {mb msu : Sx} (hs : X.stack = X.env :: X.outer) (hf : X.env.frame = some X.env.locals) (hc : Names X x c)
    (hx : ∀ (cc : Nat) (Ac : Addr), C.exn[cc]? = some Ac → PySem.W.exmOne X.K (.ref Ac) c = some (hit cc))
    (hb : ∀ (Wx : WX) (pn : List (Addr × Obj)) (xe : Value → Shared → Prop), Takes (X.tr pn xe) Wx → PSs (X.tr pn xe) body (tMSW C Wx mb))
    (hsu : ∀ (a : Addr) (pn : List (Addr × Obj)), MSs (X.suite a pn) C E0 (b₀ :: suite) msu) :
    MS X C E (.Try body [.ExceptHandler (some (.Name x np)) none (b₀ :: suite) pos'] [] [] pos) (tryS hit mb msu) := by
  refine PS.imp (ps_try_only (tb := fun Wx => tMSW C Wx mb) (ts := fun a cls d D σ H => tMS C E0 msu D σ H) (Wout := fun _ _ _ _ => False) hs hf hc takes0
    (fun Wx pn xe tk _ => hb Wx pn xe tk) (fun a oe cls d pn hz hfi => hsu a _)) fun D σ H ⟨ρ, st, env, re, S, p⟩ => ⟨ρ, st, env, re, S, ?_⟩
  unfold tryS at p
  cases h : mb env st with
  | nx e s => rw [h] at p; exact p
  | rt e s => rw [h] at p; exact p
  | bk e s => rw [h] at p; exact p
  | ct e s => rw [h] at p; exact p
  | no => rw [h] at p; exact p
  | ex cc s =>
    rw [h] at p
    dsimp only at p
    intro H' ρ' Ac e' S' hA
    by_cases q : hit cc = true
    · rw [if_pos q] at p
      exact ⟨true, by rw [hx cc Ac hA, q], fun _ a na => ⟨ρ', s, env, re.evo e' S.liv, S', PostS.nox (PostS.shift p e')⟩, fun z => nomatch z⟩
    · rw [if_neg q] at p; exact p.elim
/-- isinstance(error, ..) -/
def isXE (a : Addr) (b : Bool) (ma : Ex) : Ex := fun env st => (ma env st).bind fun w s => if ck (w = .raw (.ref a)) then .ok (.bl b) s else .no
@[simp] theorem isXE_var {a : Addr} {b : Bool} {i : Nat} {env : En} {st : Sto} (h : env[i]? = some (some (.raw (.ref a)))) : isXE a b (vr i) env st = .ok (.bl b) st := by
  unfold isXE vr
  rw [h]
  exact if_pos (ck_iff.mpr rfl)
theorem me_isX {a Ac : Addr} {oe : Obj} {pn : List (Addr × Obj)} {b : Bool} {ea c : Expr} {ma : Ex} {cv : V} {ct : Value} {p pos : Pos} (Cx : ExcC X.K Ac) (hz : Zc (.ref Ac) none oe) (hf : ∃ vs, oe.data = .fields vs) (hk : PySem.W.kitOne X.K (.ref Ac) ct = some b)
    (hcv : ∀ u, RelV cv u → u = ct) (ha : ME (X.suite a ((a, oe) :: pn)) C E ea ma) (hc : PE (X.suite a ((a, oe) :: pn)) c (tC cv)) (hg : Gl (X.suite a ((a, oe) :: pn)) "isinstance") (hm : X.mg "isinstance" = none)
    (he : starEach [ea, c] X.env = (false, eval ea X.env) :: starEach [c] X.env := by rfl) (he2 : starEach [c] X.env = (false, eval c X.env) :: starEach [] X.env := by rfl) (hpl : (backTo pos (starEach [c] X.env)).any (·.1) = false := by rfl) :
    ME (X.suite a ((a, oe) :: pn)) C E (.Call (.Name "isinstance" p) [ea, c] [] pos) (isXE a b ma) := by
  refine PE.imp (pe_callB (call_isE Cx hz hf) hg hm (by decide +kernel) (pa_cons ha (pa_cons hc pa_nil he2) he) (by decide) (by decide) he hpl) fun σ H Q ⟨ρ, st, env, re, S, p⟩ => ⟨ρ, st, env, re, S, Post.bind p fun x s1 H1 ρ1 v _ e1 S1 r1 p1 => ?_⟩
  by_cases q : ck (x = .raw (.ref a)) = true
  · rw [if_pos q] at p1
    rw [ck_iff.mp q] at r1
    cases r1
    exact ⟨cv, ct, b, rfl, hcv, hk, p1 H1 ρ1 _ (Evo.refl ..) S1 (.bl _)⟩
  · rw [if_neg q] at p1; exact p1.elim
theorem kit_ownD {K : PySem.W.Frag} {A D : Addr} {b : Bool} (ci : PySem.W.isClsIn K D = true) (ti : PySem.W.typeIn K (.ref D) = some (.type "type")) (self : PySem.W.subIn K (.ref D) (.ref D) = some true) (h : PySem.W.subIn K (.ref A) (.ref D) = some b) : PySem.W.kitOne K (.ref A) (.ref D) = some b := by
  unfold PySem.W.kitOne
  by_cases e : A = D
  · subst e
    rw [self] at h
    rw [if_pos (by simp)]
    exact h
  · rw [if_neg (by simpa using e)]
    show (if ((PySem.W.clsIn K D).isSome && PySem.W.typeIn K (.ref D) == some (.type "type")) = true then PySem.W.subIn K (.ref A) (.ref D) else none) = some b
    unfold PySem.W.isClsIn at ci
    rw [if_pos (by rw [ci, ti]; simp), h]
theorem kit_tyD {K : PySem.W.Frag} {A : Addr} {T : String} {b : Bool} (hT : PySem.W.kitMeta T = true) (h : PySem.W.subIn K (.ref A) (.type T) = some b) : PySem.W.kitOne K (.ref A) (.type T) = some b := by
  unfold PySem.W.kitOne
  rw [if_neg (by intro q; simp at q)]
  show (if PySem.W.kitMeta T = true then PySem.W.subIn K (.ref A) (.type T) else none) = some b
  rw [if_pos hT, h]
end
/-! ### a table with text keys, of ints -/
def getS (tw : List (Str × Int)) (x : W) (s : Sto) : R W := match x with
  | .str z => match tw.lookup z with
    | some i => .ok (.int i) s
    | none => .no
  | _ => .no
section
variable {X : Cx} {C : MC} {E : XK} {ad : Addr} {tw : List (Str × Int)} {b : Expr} {mb : Ex} {x : Str} {p pos : Pos}
def KTabS (K : PySem.W.Frag) (w : World) (ad : Addr) (tw : List (Str × Int)) : Prop := ∀ z i, tw.lookup z = some i → KDct K w ad z (.int i)
theorem me_getS (T : KTabS X.K X.w ad tw) (hi : ME X C E b mb) (hg : Gl X x) (hm : X.mg x = some (.ref ad)) (hd : (x == ("__debug__" : Str)) = false := by decide) (hs : PlainIx b := by intro _ _; rfl) : ME X C E (.Subscript (.Name x p) b pos) (un (getS tw) mb) := by
  refine PE.imp (pe_ix ix_kdict (pe_glob hg hm (v := .ref ad) rfl hd) hi hs) fun σ H Q ⟨ρ, st, env, re, S, p⟩ => ⟨ρ, st, env, re, S, Post.bind p fun w s1 H1 ρ1 v _ e1 S1 r1 p1 => ?_⟩
  cases r1 with
  | str z =>
    unfold getS at p1
    cases e : tw.lookup z with
    | none => simp only [e] at p1; exact p1.elim
    | some i =>
      simp only [e] at p1
      exact ⟨ad, z, .int i, rfl, rfl, T z i e, p1 H1 ρ1 _ (Evo.refl ..) S1 (.int _)⟩
  | int i => exact p1.elim
  | non => exact p1.elim
  | bl _ => exact p1.elim
  | raw _ => exact p1.elim
  | tup _ _ => exact p1.elim
  | fl _ _ _ => exact p1.elim
  | kl _ _ => exact p1.elim
  | loc _ => exact p1.elim
theorem ktabS_nil {K : PySem.W.Frag} {w : World} : KTabS K w ad [] := fun z i h => by cases h
theorem ktabS_cons {K : PySem.W.Frag} {w : World} {k : Str} {j : Int} {r : List (Str × Int)} (h : KDct K w ad k (.int j)) (t : KTabS K w ad r) : KTabS K w ad ((k, j) :: r) := fun z i e => by
  rw [List.lookup_cons] at e
  cases q : z == k with
  | true => rw [q] at e; cases e; rw [beq_iff_eq.mp q]; exact h
  | false => rw [q] at e; exact t z i e
end
end
end ML

/-! ML20: xs.extend(a tuple) -/
namespace PySem
open PyProof.Rows AutoSeq1
theorem extend_tup_any (l : Addr) (items : Array Value) (n : Nat) (b : Addr) (items2 : Array Value) (n2 : Nat) (dd : Option Addr) (sl : Array (Option Value)) (hs0 : ¬(!items.isEmpty && Builtin.List.listTooLong (items.size + items2.size)) = true) (hs1 : items.size ≤ sizeLine) (hs2 : items.size + items2.size ≤ sizeLine + 1) :
    Meets (Builtin.«list.extend» ⟨[.ref l, .ref b], []⟩) (fun _ R s => s.heap.get? l = some { cls := .type "list", dict := none, data := .seq items n, slots := #[] } ∧ s.heap.get? b = some { cls := .type "tuple", dict := dd, data := .seq items2 n2, slots := sl } ∧ R (.ok (.ret Value.none)) { s with heap := s.heap.update l (Obj.mapSeq fun x => x ++ items2), toks := s.toks }) :=
  .of_wp fun prog w A R s h => by
    obtain ⟨hp, g, d, tk, os⟩ := s; obtain ⟨hl, hb, h⟩ := h; have f1 := idx_int; have f2 := AutoSeq1.sub_tuple_tuple; have f3 := AutoSeq1.sub_list_list; have f4 := AutoSeq1.sub_tuple_list; have f5 := AutoSeq1.sub_list_tuple;
    have hz' : (items ++ items2).size ≤ sizeLine + 1 := by rw [Array.size_append]; exact hs2
    wp_walk using (wpAny_updateSeq hl rfl (hz := hs1) (_hz' := hz')), wpAny_loadPart' hl, wpAny_loadPart' hb; exact ⟨_, rfl, h⟩
end PySem
namespace L2
open PySem PySem.Spec PyProof.Rows
section
variable {X : Cx}
def rExtendT (K : PySem.W.Frag) : V → List V → Hp → VK → Prop := fun x vs H Q => ∃ l b xs zs, x = .ref l ∧ vs = [.ref b] ∧ H l = some (.lst xs) ∧ SqT K H b zs ∧ xs.length + zs.length ≤ sizeLine ∧ Q .non (upd H l (.lst (xs ++ zs)))
theorem mt_extendT : MtM X "list.extend" (rExtendT X.K) := by
  intro pins s σ H x vs v us Q I rx rv h
  obtain ⟨l, b, xs, zs, rfl, rfl, hH, hB, hz, q⟩ := h
  cases rx
  obtain ⟨u, rfl, ru⟩ := rv.one
  cases ru
  obtain ⟨z, its, n, r, hl, e⟩ := I.lstM hH
  obtain ⟨its2, r2, ⟨⟨oc, od, oda, osl⟩, e2, c2, n2, d2⟩, hl2⟩ := I.tuple hB
  dsimp only at c2 d2
  subst c2 d2
  have l2 : zs.length = its2.length := r2.length
  have hsz : its.toArray.size + its2.toArray.size ≤ sizeLine := by rw [List.size_toArray, List.size_toArray]; omega
  have hlong : ¬ (!its.toArray.isEmpty && Builtin.List.listTooLong (its.toArray.size + its2.toArray.size)) = true := by
    rw [notLongL hsz, Bool.and_false]
    exact Bool.false_ne_true
  refine call_meets F.slot_list_extend ⟨_, e, rfl⟩ F.entry_list_extend (F.args_list_extend_2 _ _)
    (PySem.extend_tup_any l its.toArray n b its2.toArray n2 _ _ hlong (by rw [List.size_toArray]; omega) (by omega)) ⟨e, e2, ?_⟩
  refine ⟨.non, _, I.lset (its' := its ++ its2) hH e (by simp) (r.append r2) ?_, rfl, q⟩
  rw [List.length_append]
  omega
end
end L2
namespace ML
open PySem L2
noncomputable section
section
variable {C : MC} {E : XK}
def extTF (x : W) (ws : List W) (s : Sto) : R W := match x, ws with
  | .loc l, [.tup ys] => match s[l]? with
    | some (.lst xs) => if ck (xs.length + ys.length ≤ 10000000) = true then .ok .non (s.set l (.lst (xs ++ ys))) else .no
    | _ => .no
  | _, _ => .no
theorem mm_extendT : MtW C E (rExtendT C.K) extTF := by
  intro H ρ st v vs x ws Q S rx rs p
  unfold extTF at p
  split at p
  · rename_i l ys
    cases rx with
    | @loc a l q =>
      obtain ⟨u, rfl, ru⟩ := rs.one
      cases ru with
      | @tup b us _ hb rb =>
        split at p
        · rename_i xs e
          split at p
          · rename_i hl
            obtain ⟨zs, hz, rz⟩ := S.obj _ a _ q e
            obtain ⟨ev, S'⟩ := lst_write S q e (rz.append rb)
            exact ⟨a, b, zs, us, rfl, rfl, hz, hb, by rw [rz.length, rb.length]; exact szL (ck_iff.mp hl), p _ ρ _ ev S' .non⟩
          · exact p.elim
        · exact p.elim
  · exact p.elim
theorem Own.extT {st s : Sto} {x : W} {ws ys : List W} (h : Own st s x ws) (hl : ws.length + ys.length ≤ 10000000) : ∃ s', extTF x [.tup ys] s = .ok .non s' ∧ Own st s' x (ws ++ ys) := by
  obtain ⟨l, rfl, e, o⟩ := h.put (ws ++ ys)
  exact ⟨_, by simp only [extTF, e]; rw [if_pos (ck_iff.mpr hl)], o⟩
end
/-- f'.. {n} ..' -/
theorem fs_int {a b : Str} {m : Ex} {env : En} {st : Sto} {q : Int} (hm : m env st = .ok (.int q) st) (hq : q.natAbs.log2 < 1920) (ha : a.length ≤ 1000) (hb : b.length ≤ 1000) : ∃ y, jsE [kk (.str a), fmE m, kk (.str b)] env st = .ok (.str y) st := by
  have hs := PyProof.Rows.int_text_len_1921 hq
  have z := sizeLine_eq
  have e0 : (Str.empty).length = 0 := rfl
  refine ⟨Str.empty ++ a ++ (toString q : String) ++ b, ?_⟩
  unfold jsE
  simp only [jsX, kk, fmE, hm, R.bind_ok]
  have h1 : ck ((Str.empty ++ a).length ≤ sizeLine) = true := ck_iff.mpr (by rw [Str.length_append]; omega)
  have h2 : ck (q.natAbs.log2 < 1920) = true := ck_iff.mpr hq
  have h3 : ck ((Str.empty ++ a ++ (toString q : String)).length ≤ sizeLine) = true := ck_iff.mpr (by rw [Str.length_append, Str.length_append]; omega)
  have h4 : ck ((Str.empty ++ a ++ (toString q : String) ++ b).length ≤ sizeLine) = true := ck_iff.mpr (by rw [Str.length_append, Str.length_append, Str.length_append]; omega)
  simp only [h1, h2, if_true, R.bind_ok, h3, h4]
end
end ML

/-! ML21: str(int), ord, texts walked -/
namespace ML
open PySem L2
noncomputable section
section
variable {C : MC} {E : XK}
def strF (ws : List W) (s : Sto) : R W := match ws with
  | [.int i] => if ck (i.natAbs.log2 < 1920) then .ok (.str (toString i)) s else .no
  | _ => .no
theorem cm_str : ClM C E (fun xs H Q => ∃ i, xs = [.int i] ∧ i.natAbs.log2 < 1920 ∧ Q (.str (toString i)) H) strF := by
  intro H ρ st vs ws Q S rs p
  unfold strF at p
  split at p
  · obtain ⟨v, rfl, r⟩ := rs.one
    cases r
    split at p
    · rename_i h
      exact ⟨_, rfl, ck_iff.mp h, p H ρ _ (Evo.refl ..) S (.str _)⟩
    · exact p.elim
  · exact p.elim
def ordF (ws : List W) (s : Sto) : R W := match ws with
  | [.str x] => if ck (x.length = 1) then .ok (.int (x.cps.getD 0 0 : Nat)) s else .no
  | _ => .no
theorem cm_ord : ClM C E (fun xs H Q => ∃ x, xs = [.str x] ∧ x.length = 1 ∧ Q (.int (x.cps.getD 0 0 : Nat)) H) ordF := by
  intro H ρ st vs ws Q S rs p
  unfold ordF at p
  split at p
  · obtain ⟨v, rfl, r⟩ := rs.one
    cases r
    split at p
    · rename_i h
      exact ⟨_, rfl, ck_iff.mp h, p H ρ _ (Evo.refl ..) S (.int _)⟩
    · exact p.elim
  · exact p.elim
def chI (m : Ex) : Ix := fun env st => (m env st).bind fun w s => match w with
  | .str x => .ok (.st (x.cps.toList.map fun c => W.str ⟨#[c]⟩)) s
  | _ => .no
theorem its_rel {H : Hp} {ρ : Pl} {st : Sto} {x : Str} : ItRel C (Its x) H ρ st (.st (x.cps.toList.map fun c => W.str ⟨#[c]⟩)) := by
  intro H' ρ' st' ev S' i o ho
  cases ho
  by_cases hi : i < x.cps.size
  · have e : (x.cps.toList.map fun c => W.str ⟨#[c]⟩)[i]? = some (W.str ⟨#[x.cps[i]]⟩) := by simp [hi]
    rw [e]
    refine ⟨hi, fun y H'' hy => ?_⟩
    obtain ⟨rfl, c, hc, rfl⟩ := hy
    have : c = x.cps[i] := by simpa [hi] using hc.symm
    subst this
    exact ⟨Evo.refl .., S', .str _⟩
  · have e : (x.cps.toList.map fun c => W.str ⟨#[c]⟩)[i]? = none := by simp; omega
    rw [e]
    exact Nat.le_of_not_lt hi
theorem mi_str {X : Cx} {tg l : Expr} {ml : Ex} (hl : ME X C E l ml) : MI X C E tg l (chI ml) := by
  refine PI.imp (pi_str hl) fun σ H R ⟨ρ, st, env, re, S, p⟩ => ⟨ρ, st, env, re, S, Post.bind (rel := relW C) p fun w s1 H1 ρ1 v hw e1 S1 r1 p1 => ?_⟩
  cases r1 with
  | str x => exact ⟨x, rfl, p1 H1 ρ1 _ (Evo.refl ..) S1 its_rel⟩
  | int i => exact p1.elim
  | non => exact p1.elim
  | bl _ => exact p1.elim
  | raw _ => exact p1.elim
  | tup _ _ => exact p1.elim
  | fl _ _ _ => exact p1.elim
  | kl _ _ => exact p1.elim
  | loc _ => exact p1.elim
end
section
variable {α : Type} [DecidableEq α]
/-- a in (b, ..), a not in (b, ..) -/
theorem Cod.inT (c : Cod α) (hn : c.n ≤ 60) (neg : Bool) (a : α) (bs : List α) (s : Sto) : inDW neg (c.w a) (.tup (bs.map c.w)) s = .ok (.bl (if neg then !decide (a ∈ bs) else decide (a ∈ bs))) s := by
  have sh : SeqAt.shaped (c.d a) = true := by
    unfold SeqAt.shaped
    rw [Bool.and_eq_true]
    exact ⟨c.lay a, decide_eq_true (Nat.le_trans (c.dep a) (by omega))⟩
  have e1 : datS s 3 (c.w a) = some (c.d a) := by rw [datS_cl (c.cl a), c.dat]
  have e2 : datItems s (.tup (bs.map c.w)) = some (bs.map c.d) := by
    have h : datW (W.tup (bs.map c.w)) = some (.tuple (bs.map c.d)) := (cTup c).dat bs
    unfold datItems
    rw [datS_tup, h]
  have sh2 : SeqAt.shaped (.list (bs.map c.d)) = true := by
    unfold SeqAt.shaped
    rw [Bool.and_eq_true]
    exact ⟨(cLst c).lay bs, decide_eq_true (Nat.le_trans ((cLst c).dep bs) (by show c.n + 1 ≤ 64; omega))⟩
  have an : (bs.map c.d).any (fun z => PyData.eqv z (c.d a)) = decide (a ∈ bs) := by
    rw [List.any_map, Bool.eq_iff_iff]
    simp only [List.any_eq_true, Function.comp, c.eqv, decide_eq_true_eq]
    constructor
    · rintro ⟨x, hx, rfl⟩; exact hx
    · intro h; exact ⟨a, h, rfl⟩
  unfold inDW
  simp only [e1, e2, sh, sh2, and_self, if_true, an]
end
end
end ML

/-! ML22: sorted(ints) -/
namespace ML
open PySem L2
noncomputable section
def insI (x : Int) : List Int → List Int
  | [] => [x]
  | y :: ys => if x ≤ y then x :: y :: ys else y :: insI x ys
def isort : List Int → List Int
  | [] => []
  | x :: xs => insI x (isort xs)
theorem insI_perm (x : Int) : ∀ ys : List Int, (insI x ys).Perm (x :: ys)
  | [] => List.Perm.refl _
  | y :: ys => by
    unfold insI
    split
    · exact List.Perm.refl _
    · exact ((insI_perm x ys).cons y).trans (List.Perm.swap ..)
theorem isort_perm : ∀ xs : List Int, (isort xs).Perm xs
  | [] => List.Perm.refl _
  | x :: xs => (insI_perm x _).trans ((isort_perm xs).cons x)
theorem insI_up (x : Int) : ∀ ys : List Int, ys.Pairwise (· ≤ ·) → (insI x ys).Pairwise (· ≤ ·)
  | [], _ => by simp [insI]
  | y :: ys, h => by
    unfold insI
    rw [List.pairwise_cons] at h
    split
    · rename_i hx
      refine List.pairwise_cons.mpr ⟨fun z hz => ?_, List.pairwise_cons.mpr h⟩
      rcases List.mem_cons.mp hz with e | hz
      · omega
      · have := h.1 z hz; omega
    · rename_i hx
      refine List.pairwise_cons.mpr ⟨fun z hz => ?_, insI_up x ys h.2⟩
      rcases List.mem_cons.mp ((insI_perm x ys).mem_iff.mp hz) with e | hz
      · omega
      · exact h.1 z hz
theorem isort_up : ∀ xs : List Int, (isort xs).Pairwise (· ≤ ·)
  | [] => List.Pairwise.nil
  | x :: xs => insI_up x _ (isort_up xs)
/-- two arrangements in order are one -/
theorem up_one : ∀ {xs ys : List Int}, xs.Perm ys → xs.Pairwise (· ≤ ·) → ys.Pairwise (· ≤ ·) → xs = ys
  | [], ys, h, _, _ => (List.nil_perm.mp h).symm
  | x :: xs, [], h, _, _ => absurd h.symm (by simp)
  | x :: xs, y :: ys, h, h1, h2 => by
    have e : x = y := by
      have a := h.mem_iff.mp (List.mem_cons_self (a := x) (l := xs))
      have b := h.mem_iff.mpr (List.mem_cons_self (a := y) (l := ys))
      rw [List.pairwise_cons] at h1 h2
      rcases List.mem_cons.mp a with e | a
      · exact e
      · rcases List.mem_cons.mp b with e | b
        · exact e.symm
        · have := h1.1 y b
          have := h2.1 x a
          omega
    subst e
    rw [List.pairwise_cons] at h1 h2
    rw [up_one (List.Perm.cons_inv h) h1.2 h2.2]
section
variable {C : MC} {E : XK}
def sortF (ws : List W) (s : Sto) : R W := match ws with
  | [w] => match (lstK s w).bind intsOf with
    | some ns => .ok (.fl ((isort ns).map W.int)) s
    | none => .no
  | _ => .no
theorem cm_sorted : ClM C E (rSortedI C.K) sortF := by
  intro H ρ st vs ws Q S rs p
  unfold sortF at p
  split at p
  · obtain ⟨v, rfl, r⟩ := rs.one
    split at p
    · rename_i ns e
      rw [Option.bind_eq_some_iff] at e
      obtain ⟨xs, e1, e2⟩ := e
      obtain ⟨a, us, rfl, q, r⟩ := lstK_rep S r e1
      rw [intsOf_eq e2] at r
      refine ⟨a, ns, rfl, r.ints ▸ q, fun ns' l hp hu hl => ?_⟩
      have e : ns' = isort ns := up_one (hp.trans (isort_perm ns).symm) hu (isort_up ns)
      subst e
      exact p _ ρ _ (Evo.laid hl) (S.laid hl) (fl_new S hl (repL_ints _))
    · exact p.elim
  · exact p.elim
end
end
end ML

namespace Kd
open PySem L2 ML
noncomputable section
abbrev w_CANCEL : W := .tup [.int 24, .int 26]
abbrev w_STRING_STARTS : W := .tup [.int 80, .int 88, .int 93, .int 94, .int 95]
abbrev w_LEAST_OF_LENGTH : W := .tup [.int 0, .int 128, .int 2048, .int 65536]
theorem eq_int (i j : Int) (s : Sto) : eqW (.int i) (.int j) s = .ok (.bl (i == j)) s := by
  simp [eqW, datS, lstOf, datW, SeqAt.shaped, PyData.canLay0, PyData.depth, PyData.eqv]
theorem ne_int (i j : Int) (s : Sto) : neW (.int i) (.int j) s = .ok (.bl (!(i == j))) s := by
  simp [neW, datS, lstOf, datW, SeqAt.shaped, PyData.canLay0, PyData.depth, PyData.eqv]
theorem eq_bl (i j : Bool) (s : Sto) : eqW (.bl i) (.bl j) s = .ok (.bl (i == j)) s := by
  simp [eqW, datS, lstOf, datW, SeqAt.shaped, PyData.canLay0, PyData.depth, PyData.eqv]
theorem ne_bl (i j : Bool) (s : Sto) : neW (.bl i) (.bl j) s = .ok (.bl (!(i == j))) s := by
  simp [neW, datS, lstOf, datW, SeqAt.shaped, PyData.canLay0, PyData.depth, PyData.eqv]
theorem set_last (s : Sto) (a b : O) : (s ++ [a]).set s.length b = s ++ [b] := by simp
theorem rngL_succ (lo : Int) (n : Nat) : rngL lo (n + 1) = W.int lo :: rngL (lo + 1) n := by
  unfold rngL
  rw [List.range_succ_eq_map, List.map_cons, List.map_map]
  congr 1
  · show W.int (lo + ((0 : Nat) : Int)) = _
    rw [show lo + ((0 : Nat) : Int) = lo by omega]
  · apply List.map_congr_left
    intro i _
    show W.int (lo + ((i + 1 : Nat) : Int)) = W.int (lo + 1 + (i : Int))
    rw [show lo + ((i + 1 : Nat) : Int) = lo + 1 + (i : Int) by omega]
theorem rngL_zero (lo : Int) : rngL lo 0 = [] := rfl
theorem smI_small {n : Int} (h : 0 ≤ n) (h2 : n ≤ 1000000000) : smI n = true := by
  unfold smI
  rw [ck_iff]
  omega
theorem at0 (s : Sto) (a : O) (xs : List O) : (s ++ a :: xs)[s.length]? = some a := by simp
theorem set0 (s : Sto) (a b : O) (xs : List O) : (s ++ a :: xs).set s.length b = s ++ b :: xs := by simp
theorem dat_ints (s : Sto) (n : Nat) (ns : List Int) : (ns.map W.int).mapM (datS s n) = some (ns.map PyData.int) := by
  induction ns with
  | nil => rfl
  | cons x xs ih =>
    have e : datS s n (.int x) = some (.int x) := by cases n <;> simp [datS, lstOf, datW]
    simp only [List.map_cons, List.mapM_cons, e, ih]
    rfl
theorem lay_ints (ns : List Int) : PyData.canLayAll0 (ns.map PyData.int) = true := by
  induction ns with
  | nil => rfl
  | cons x xs ih => simp [PyData.canLayAll0, PyData.canLay0, ih]
theorem depth_ints (ns : List Int) : PyData.depthAll (ns.map PyData.int) ≤ 1 := by
  induction ns with
  | nil => simp [PyData.depthAll]
  | cons x xs ih => simp only [List.map_cons, PyData.depthAll, PyData.depth]; omega
theorem shaped_ints (ns : List Int) : SeqAt.shaped (.list (ns.map PyData.int)) = true := by
  have h := depth_ints ns
  unfold SeqAt.shaped
  rw [Bool.and_eq_true]
  exact ⟨by simp only [PyData.canLay0]; exact lay_ints ns, decide_eq_true (by simp only [PyData.depth]; omega)⟩
theorem eqv_ints : ∀ (xs ys : List Int), PyData.eqvAll (xs.map PyData.int) (ys.map PyData.int) = decide (xs = ys)
  | [], [] => by simp [PyData.eqvAll]
  | [], _ :: _ => by simp [PyData.eqvAll]
  | _ :: _, [] => by simp [PyData.eqvAll]
  | x :: xs, y :: ys => by
    simp only [List.map_cons, PyData.eqvAll, PyData.eqv, eqv_ints xs ys]
    by_cases h : x = y <;> simp [h]
theorem dat_lst {s : Sto} {w : W} {ns : List Int} (h : lstOf s w = some (ns.map W.int)) : datS s 3 w = some (.list (ns.map PyData.int)) := by
  unfold datS
  rw [h]
  simp only [dat_ints, Option.map_some]
theorem eq_lsts {s : Sto} {x y : W} {xs ys : List Int} (h1 : lstOf s x = some (xs.map W.int)) (h2 : lstOf s y = some (ys.map W.int)) : eqW x y s = .ok (.bl (decide (xs = ys))) s := by
  simp only [eqW, dat_lst h1, dat_lst h2, shaped_ints, PyData.eqv, eqv_ints, and_self, if_true]
theorem ne_lsts {s : Sto} {x y : W} {xs ys : List Int} (h1 : lstOf s x = some (xs.map W.int)) (h2 : lstOf s y = some (ys.map W.int)) : neW x y s = .ok (.bl (!decide (xs = ys))) s := by
  simp only [neW, dat_lst h1, dat_lst h2, shaped_ints, PyData.eqv, eqv_ints, and_self, if_true]
theorem atI_l0 {α : Type} (x : α) (xs : List α) : atI (x :: xs) 0 = some x := atI_nat (j := 0) rfl
theorem atI_l1 {α : Type} (x y : α) (xs : List α) : atI (x :: y :: xs) 1 = some y := atI_nat (j := 1) rfl
theorem atI_l2 {α : Type} (x y z : α) (xs : List α) : atI (x :: y :: z :: xs) 2 = some z := atI_nat (j := 2) rfl
theorem atI_l3 {α : Type} (x y z u : α) (xs : List α) : atI (x :: y :: z :: u :: xs) 3 = some u := atI_nat (j := 3) rfl
theorem cutL_to {α : Type} (ws : List α) (k : Nat) : cutL ws none (some (k : Int)) = ws.take k := by
  unfold cutL
  rw [HT.sIx_none, HT.sIx_nat, List.drop_zero, Nat.sub_zero, ← List.take_eq_take_min]
theorem cutL_from {α : Type} (ws : List α) (k : Nat) : cutL ws (some (k : Int)) none = ws.drop k := by
  unfold cutL
  rw [HT.sIx_none, HT.sIx_nat]
  by_cases h : k ≤ ws.length
  · rw [Nat.min_eq_left h, List.take_of_length_le (by simp)]
  · rw [Nat.min_eq_right (by omega), List.drop_eq_nil_of_le (Nat.le_refl _), List.drop_eq_nil_of_le (by omega)]
    simp

/-! Parser_init -/
def r_Parser_init : List W → Sto → R W := bodyD 1 (sqS (setFS 0 0 (vr 0) (kk (.int 0))) (sqS (setFS 0 1 (vr 0) (kk (.int 0))) (sqS (setFS 0 2 (vr 0) (kk (.int 0))) (sqS (setFS 0 3 (vr 0) (kk (.int 0))) (sqS (setFS 0 4 (vr 0) (kk (.int 0))) (sqS (setFS 0 5 (vr 0) (lsE (axc (kk (.int 0)) axn))) (sqS (setFS 0 6 (vr 0) (kk (.bl true))) (sqS (setFS 0 7 (vr 0) (kk (.bl true))) (sqS (setFS 0 8 (vr 0) (kk (.bl false))) (setFS 0 9 (vr 0) (lsE axn)))))))))))
abbrev d_Parser_init : List W → Sto → R W := r_Parser_init

/-! Parser_resting -/
def r_Parser_resting : List W → Sto → R W := bodyD 1 (rtS (andE (bn eqW (un (fldW 0 0) (vr 0)) (kk (.int 0))) (bn eqW (un (fldW 0 1) (vr 0)) (kk (.int 0)))))
abbrev d_Parser_resting : List W → Sto → R W := r_Parser_resting
/-! Parser_escape_step -/
def r_Parser_escape_step : List W → Sto → R W := bodyD 2 (sqS (ifS (tb (bn eqW (vr 1) (kk (.int 91)))) (sqS (setFS 0 0 (vr 0) (kk (.int 3))) (sqS (setFS 0 4 (vr 0) (kk (.int 0))) (sqS (setFS 0 5 (vr 0) (lsE (axc (kk (.int 0)) axn))) (sqS (setFS 0 6 (vr 0) (kk (.bl true))) (sqS (setFS 0 7 (vr 0) (kk (.bl true))) (rtS (flE axn))))))) passS) (sqS (ifS (tb (bn inW (vr 1) (kk w_STRING_STARTS))) (sqS (setFS 0 0 (vr 0) (kk (.int 4))) (sqS (setFS 0 8 (vr 0) (bn eqW (vr 1) (kk (.int 93)))) (sqS (setFS 0 9 (vr 0) (lsE axn)) (rtS (flE axn))))) passS) (sqS (ifS (tb (bn ltW (vr 1) (kk (.int 48)))) (sqS (setFS 0 0 (vr 0) (kk (.int 2))) (rtS (flE axn))) passS) (sqS (setFS 0 0 (vr 0) (kk (.int 0))) (rtS (flE (axc (tupE (axc (kk (.str "escape")) (axc (vr 1) axn))) axn)))))))
abbrev d_Parser_escape_step : List W → Sto → R W := r_Parser_escape_step
/-! is_point -/
def r_is_point : List W → Sto → R W := bodyD 1 (sqS (ifS (orB (tb (bn ltW (vr 0) (kk (.int 32)))) (orB (tb (bn gtW (vr 0) (kk (.int 1114111)))) (tb (bn eqW (vr 0) (kk (.int 127)))))) (rtS (kk (.bl false))) passS) (rtS (orE (bn ltW (vr 0) (kk (.int 55296))) (bn gtW (vr 0) (kk (.int 57343))))))
abbrev d_is_point : List W → Sto → R W := r_is_point
def isPoint (p : Int) : Bool := decide (32 ≤ p ∧ p ≤ 1114111 ∧ p ≠ 127 ∧ (p < 55296 ∨ 57343 < p))
theorem point_den (p : Int) (st : Sto) : r_is_point [.int p] st = .ok (.bl (isPoint p)) st := by
  unfold r_is_point isPoint
  simp [bodyD, pad, sqS, ifS, orB, andB, notB, tb, bn, un, addW, mulW, negW, notW, mulOk, int0, intW, vr, kk, rtS, rnS, exS, orE, andE, chn, ifE, trB, truW, lstOf, seqOf, lstK, passS, noS, setS, asgS, parS, axc, axn, flE, lsE, tupE, clE, mthE, mkE, isIns, fldW, setFS, augFS, setFd, gFd, gNm, gTp, gsC, gsN, augS, lenF, absF, intF, allF, anyF, sumF, maxF, minF, listF, listLF, tupF, isiW, tyOf, Ty.le, ixW, lmE, appF, extF, popF, flatW, veqW, inW, ninW, forS, sqI, lpS, forL, rg1, rg2, slE, slF, slLF, oxn, oxs, inT, getT, isnW, nonW, isbW, nibW, idxF, firstI, gSb, setI, ixN, bkS, ctS, whS, eq_int, ne_int, eq_bl, ne_bl, atI_l0, atI_l1, atI_l2, atI_l3, intsOf_map, blsOf_map, intsOf_mapf, blsOf_mapf, intsOf_mapc, blsOf_mapc, lstK]
  by_cases h1 : p < 32
  · simp [h1, show ¬ (32 ≤ p) by omega]
  · by_cases h2 : 1114111 < p
    · simp [h1, h2, show ¬ (p ≤ 1114111) by omega]
    · by_cases h3 : p = 127
      · simp [h3]
      · simp only [h1, h2, h3, if_false]
        by_cases h4 : p < 55296
        · simp [h4, h3, show 32 ≤ p by omega, show p ≤ 1114111 by omega]
        · simp [h4, h3, show 32 ≤ p by omega, show p ≤ 1114111 by omega]

/-! Parser_further_step -/
def r_Parser_further_step : List W → Sto → R W := bodyD 2 (sqS (ifS (tb (bn eqW (un (fldW 0 1) (vr 0)) (kk (.int 0)))) (rtS (flE (axc (tupE (axc (kk (.str "print")) (axc (kk (.int 65533)) axn))) axn))) passS) (sqS (setFS 0 3 (vr 0) (bn subW (bn addW (bn mulW (un (fldW 0 3) (vr 0)) (kk (.int 64))) (vr 1)) (kk (.int 128)))) (sqS (augFS 0 1 (int0 fun i j => .int (i - j)) (vr 0) (kk (.int 1))) (sqS (ifS (tb (bn gtW (un (fldW 0 1) (vr 0)) (kk (.int 0)))) (rtS (flE axn)) passS) (sqS (ifS (andB (trB (clE d_is_point (axc (un (fldW 0 3) (vr 0)) axn))) (tb (bn geW (un (fldW 0 3) (vr 0)) (bn ixW (kk w_LEAST_OF_LENGTH) (un (fldW 0 2) (vr 0)))))) (rtS (flE (axc (tupE (axc (kk (.str "print")) (axc (un (fldW 0 3) (vr 0)) axn))) axn))) passS) (rtS (flE (axc (tupE (axc (kk (.str "print")) (axc (kk (.int 65533)) axn))) axn))))))))
abbrev d_Parser_further_step : List W → Sto → R W := r_Parser_further_step
/-! Parser_ground_step -/
def r_Parser_ground_step : List W → Sto → R W := bodyD 2 (sqS (ifS (tb (bn ltW (vr 1) (kk (.int 128)))) (rtS (flE (axc (tupE (axc (kk (.str "print")) (axc (vr 1) axn))) axn))) passS) (sqS (ifS (tb (bn ltW (vr 1) (kk (.int 192)))) (rtS (mthE 0 d_Parser_further_step (vr 0) (axc (vr 1) axn))) passS) (sqS (ifS (tb (bn geW (vr 1) (kk (.int 248)))) (rtS (flE (axc (tupE (axc (kk (.str "print")) (axc (kk (.int 65533)) axn))) axn))) passS) (sqS (ifS (tb (bn ltW (vr 1) (kk (.int 224)))) (asgS (tupE (axc (kk (.int 1)) (axc (bn subW (vr 1) (kk (.int 192))) axn))) (gTp 2 (gsC (gFd 0 2 (vr 0)) (gsC (gFd 0 3 (vr 0)) gsN)))) (ifS (tb (bn ltW (vr 1) (kk (.int 240)))) (asgS (tupE (axc (kk (.int 2)) (axc (bn subW (vr 1) (kk (.int 224))) axn))) (gTp 2 (gsC (gFd 0 2 (vr 0)) (gsC (gFd 0 3 (vr 0)) gsN)))) (asgS (tupE (axc (kk (.int 3)) (axc (bn subW (vr 1) (kk (.int 240))) axn))) (gTp 2 (gsC (gFd 0 2 (vr 0)) (gsC (gFd 0 3 (vr 0)) gsN)))))) (sqS (setFS 0 1 (vr 0) (un (fldW 0 2) (vr 0))) (rtS (flE axn)))))))
abbrev d_Parser_ground_step : List W → Sto → R W := r_Parser_ground_step
/-! the parser over plain data -/
inductive Act where
  | print (p : Int) | control (b : Int) | escape (b : Int) | seq (priv : Int) (ns : List Int) (b : Int) | title (t : List Int)
deriving DecidableEq
def actW : Act → W
  | .print p => .tup [.str "print", .int p]
  | .control b => .tup [.str "control", .int b]
  | .escape b => .tup [.str "escape", .int b]
  | .seq q ns b => .tup [.str "sequence", .int q, .tup (ns.map W.int), .int b]
  | .title t => .tup [.str "title", .tup (t.map W.int)]
structure PS where
  mode : Int
  missing : Int
  further : Int
  number : Int
  priv : Int
  numbers : List Int
  valid : Bool
  first : Bool
  isTitle : Bool
  string : List Int
/-- the fields, the lists at nl and sl -/
abbrev pf (p : PS) (nl sl : Nat) : List (Option W) := [some (.int p.mode), some (.int p.missing), some (.int p.further), some (.int p.number), some (.int p.priv), some (.loc nl), some (.bl p.valid), some (.bl p.first), some (.bl p.isTitle), some (.loc sl)]
theorem set_same {α : Type} {s : List α} {l : Nat} {x : α} (h : s[l]? = some x) : s.set l x = s := by
  apply List.ext_getElem?
  intro i
  by_cases e : l = i
  · subst e; rw [List.getElem?_set_self (List.getElem?_eq_some_iff.mp h).1, h]
  · rw [List.getElem?_set_ne e]
theorem lt_of_at {α : Type} {s : List α} {l : Nat} {x : α} (h : s[l]? = some x) : l < s.length := (List.getElem?_eq_some_iff.mp h).1
def leastOf (f : Int) : Int := if f = 1 then 128 else if f = 2 then 2048 else 65536
def furtherP (p : PS) (b : Int) : PS × List Act :=
  if p.missing = 0 then (p, [.print 65533])
  else if 0 < p.missing - 1 then ({ p with number := p.number * 64 + b - 128, missing := p.missing - 1 }, [])
  else ({ p with number := p.number * 64 + b - 128, missing := p.missing - 1 }, [.print (if isPoint (p.number * 64 + b - 128) = true ∧ leastOf p.further ≤ p.number * 64 + b - 128 then p.number * 64 + b - 128 else 65533)])
theorem at_least {f : Int} (h : f = 1 ∨ f = 2 ∨ f = 3) : atI [W.int 0, W.int 128, W.int 2048, W.int 65536] f = some (.int (leastOf f)) := by
  rcases h with rfl | rfl | rfl <;> rfl
theorem further_den {s : Sto} {l nl sl : Nat} {p : PS} {b : Int} (h : s[l]? = some (.ins 0 (pf p nl sl))) (hf : p.missing ≠ 0 → p.further = 1 ∨ p.further = 2 ∨ p.further = 3) :
    r_Parser_further_step [.loc l, .int b] s = .ok (.fl ((furtherP p b).2.map actW)) (s.set l (.ins 0 (pf (furtherP p b).1 nl sl))) := by
  have hs : ∀ x, (s.set l x)[l]? = some x := fun x => List.getElem?_set_self (lt_of_at h)
  unfold r_Parser_further_step furtherP
  by_cases h1 : p.missing = 0
  · simp only [if_pos h1, set_same h]
    simp only [pf] at h
    simp [bodyD, pad, sqS, ifS, orB, andB, notB, tb, bn, un, addW, mulW, negW, notW, mulOk, int0, intW, vr, kk, rtS, rnS, exS, orE, andE, chn, ifE, trB, truW, lstOf, seqOf, lstK, passS, noS, setS, asgS, parS, axc, axn, flE, lsE, tupE, clE, mthE, mkE, isIns, fldW, setFS, augFS, setFd, gFd, gNm, gTp, gsC, gsN, augS, lenF, absF, intF, allF, anyF, sumF, maxF, minF, listF, listLF, tupF, isiW, tyOf, Ty.le, ixW, lmE, appF, extF, popF, flatW, veqW, inW, ninW, forS, sqI, lpS, forL, rg1, rg2, slE, slF, slLF, oxn, oxs, inT, getT, isnW, nonW, isbW, nibW, idxF, firstI, gSb, setI, ixN, bkS, ctS, whS, eq_int, ne_int, eq_bl, ne_bl, atI_l0, atI_l1, atI_l2, atI_l3, intsOf_map, blsOf_map, intsOf_mapf, blsOf_mapf, intsOf_mapc, blsOf_mapc, lstK, h, h1, actW]
  · have h3 := at_least (hf h1)
    simp only [pf] at h
    by_cases h2 : 0 < p.missing - 1
    · simp only [if_neg h1, if_pos h2]
      simp [bodyD, pad, sqS, ifS, orB, andB, notB, tb, bn, un, addW, mulW, negW, notW, mulOk, int0, intW, vr, kk, rtS, rnS, exS, orE, andE, chn, ifE, trB, truW, lstOf, seqOf, lstK, passS, noS, setS, asgS, parS, axc, axn, flE, lsE, tupE, clE, mthE, mkE, isIns, fldW, setFS, augFS, setFd, gFd, gNm, gTp, gsC, gsN, augS, lenF, absF, intF, allF, anyF, sumF, maxF, minF, listF, listLF, tupF, isiW, tyOf, Ty.le, ixW, lmE, appF, extF, popF, flatW, veqW, inW, ninW, forS, sqI, lpS, forL, rg1, rg2, slE, slF, slLF, oxn, oxs, inT, getT, isnW, nonW, isbW, nibW, idxF, firstI, gSb, setI, ixN, bkS, ctS, whS, eq_int, ne_int, eq_bl, ne_bl, atI_l0, atI_l1, atI_l2, atI_l3, intsOf_map, blsOf_map, intsOf_mapf, blsOf_mapf, intsOf_mapc, blsOf_mapc, lstK, h, hs, h1, h2]
      intro z; omega
    · simp only [if_neg h1, if_neg h2]
      by_cases h4 : isPoint (p.number * 64 + b - 128) = true
      · by_cases h5 : leastOf p.further ≤ p.number * 64 + b - 128
        · simp [bodyD, pad, sqS, ifS, orB, andB, notB, tb, bn, un, addW, mulW, negW, notW, mulOk, int0, intW, vr, kk, rtS, rnS, exS, orE, andE, chn, ifE, trB, truW, lstOf, seqOf, lstK, passS, noS, setS, asgS, parS, axc, axn, flE, lsE, tupE, clE, mthE, mkE, isIns, fldW, setFS, augFS, setFd, gFd, gNm, gTp, gsC, gsN, augS, lenF, absF, intF, allF, anyF, sumF, maxF, minF, listF, listLF, tupF, isiW, tyOf, Ty.le, ixW, lmE, appF, extF, popF, flatW, veqW, inW, ninW, forS, sqI, lpS, forL, rg1, rg2, slE, slF, slLF, oxn, oxs, inT, getT, isnW, nonW, isbW, nibW, idxF, firstI, gSb, setI, ixN, bkS, ctS, whS, eq_int, ne_int, eq_bl, ne_bl, atI_l0, atI_l1, atI_l2, atI_l3, intsOf_map, blsOf_map, intsOf_mapf, blsOf_mapf, intsOf_mapc, blsOf_mapc, lstK, h, hs, h1, point_den, h3, h4, h5, actW, show ¬ (1 < p.missing) by omega]
        · simp [bodyD, pad, sqS, ifS, orB, andB, notB, tb, bn, un, addW, mulW, negW, notW, mulOk, int0, intW, vr, kk, rtS, rnS, exS, orE, andE, chn, ifE, trB, truW, lstOf, seqOf, lstK, passS, noS, setS, asgS, parS, axc, axn, flE, lsE, tupE, clE, mthE, mkE, isIns, fldW, setFS, augFS, setFd, gFd, gNm, gTp, gsC, gsN, augS, lenF, absF, intF, allF, anyF, sumF, maxF, minF, listF, listLF, tupF, isiW, tyOf, Ty.le, ixW, lmE, appF, extF, popF, flatW, veqW, inW, ninW, forS, sqI, lpS, forL, rg1, rg2, slE, slF, slLF, oxn, oxs, inT, getT, isnW, nonW, isbW, nibW, idxF, firstI, gSb, setI, ixN, bkS, ctS, whS, eq_int, ne_int, eq_bl, ne_bl, atI_l0, atI_l1, atI_l2, atI_l3, intsOf_map, blsOf_map, intsOf_mapf, blsOf_mapf, intsOf_mapc, blsOf_mapc, lstK, h, hs, h1, point_den, h3, h4, h5, actW, show ¬ (1 < p.missing) by omega]
      · simp [bodyD, pad, sqS, ifS, orB, andB, notB, tb, bn, un, addW, mulW, negW, notW, mulOk, int0, intW, vr, kk, rtS, rnS, exS, orE, andE, chn, ifE, trB, truW, lstOf, seqOf, lstK, passS, noS, setS, asgS, parS, axc, axn, flE, lsE, tupE, clE, mthE, mkE, isIns, fldW, setFS, augFS, setFd, gFd, gNm, gTp, gsC, gsN, augS, lenF, absF, intF, allF, anyF, sumF, maxF, minF, listF, listLF, tupF, isiW, tyOf, Ty.le, ixW, lmE, appF, extF, popF, flatW, veqW, inW, ninW, forS, sqI, lpS, forL, rg1, rg2, slE, slF, slLF, oxn, oxs, inT, getT, isnW, nonW, isbW, nibW, idxF, firstI, gSb, setI, ixN, bkS, ctS, whS, eq_int, ne_int, eq_bl, ne_bl, atI_l0, atI_l1, atI_l2, atI_l3, intsOf_map, blsOf_map, intsOf_mapf, blsOf_mapf, intsOf_mapc, blsOf_mapc, lstK, h, hs, h1, point_den, h4, actW, show ¬ (1 < p.missing) by omega]
def groundP (p : PS) (b : Int) : PS × List Act :=
  if b < 128 then (p, [.print b]) else if b < 192 then furtherP p b else if 248 ≤ b then (p, [.print 65533])
  else if b < 224 then ({ p with further := 1, number := b - 192, missing := 1 }, []) else if b < 240 then ({ p with further := 2, number := b - 224, missing := 2 }, []) else ({ p with further := 3, number := b - 240, missing := 3 }, [])
theorem ground_den {s : Sto} {l nl sl : Nat} {p : PS} {b : Int} (h : s[l]? = some (.ins 0 (pf p nl sl))) (hf : p.missing ≠ 0 → p.further = 1 ∨ p.further = 2 ∨ p.further = 3) :
    r_Parser_ground_step [.loc l, .int b] s = .ok (.fl ((groundP p b).2.map actW)) (s.set l (.ins 0 (pf (groundP p b).1 nl sl))) := by
  have hs : ∀ x, (s.set l x)[l]? = some x := fun x => List.getElem?_set_self (lt_of_at h)
  have hd := further_den (b := b) h hf
  unfold r_Parser_ground_step groundP
  by_cases h1 : b < 128
  · simp only [if_pos h1, set_same h]
    simp [bodyD, pad, sqS, ifS, orB, andB, notB, tb, bn, un, addW, mulW, negW, notW, mulOk, int0, intW, vr, kk, rtS, rnS, exS, orE, andE, chn, ifE, trB, truW, lstOf, seqOf, lstK, passS, noS, setS, asgS, parS, axc, axn, flE, lsE, tupE, clE, mthE, mkE, isIns, fldW, setFS, augFS, setFd, gFd, gNm, gTp, gsC, gsN, augS, lenF, absF, intF, allF, anyF, sumF, maxF, minF, listF, listLF, tupF, isiW, tyOf, Ty.le, ixW, lmE, appF, extF, popF, flatW, veqW, inW, ninW, forS, sqI, lpS, forL, rg1, rg2, slE, slF, slLF, oxn, oxs, inT, getT, isnW, nonW, isbW, nibW, idxF, firstI, gSb, setI, ixN, bkS, ctS, whS, eq_int, ne_int, eq_bl, ne_bl, atI_l0, atI_l1, atI_l2, atI_l3, intsOf_map, blsOf_map, intsOf_mapf, blsOf_mapf, intsOf_mapc, blsOf_mapc, lstK, h1, actW]
  by_cases h2 : b < 192
  · simp only [if_neg h1, if_pos h2]
    simp [bodyD, pad, sqS, ifS, orB, andB, notB, tb, bn, un, addW, mulW, negW, notW, mulOk, int0, intW, vr, kk, rtS, rnS, exS, orE, andE, chn, ifE, trB, truW, lstOf, seqOf, lstK, passS, noS, setS, asgS, parS, axc, axn, flE, lsE, tupE, clE, mthE, mkE, isIns, fldW, setFS, augFS, setFd, gFd, gNm, gTp, gsC, gsN, augS, lenF, absF, intF, allF, anyF, sumF, maxF, minF, listF, listLF, tupF, isiW, tyOf, Ty.le, ixW, lmE, appF, extF, popF, flatW, veqW, inW, ninW, forS, sqI, lpS, forL, rg1, rg2, slE, slF, slLF, oxn, oxs, inT, getT, isnW, nonW, isbW, nibW, idxF, firstI, gSb, setI, ixN, bkS, ctS, whS, eq_int, ne_int, eq_bl, ne_bl, atI_l0, atI_l1, atI_l2, atI_l3, intsOf_map, blsOf_map, intsOf_mapf, blsOf_mapf, intsOf_mapc, blsOf_mapc, lstK, h, h1, h2, hd]
  by_cases h3 : 248 ≤ b
  · simp only [if_neg h1, if_neg h2, if_pos h3, set_same h]
    simp [bodyD, pad, sqS, ifS, orB, andB, notB, tb, bn, un, addW, mulW, negW, notW, mulOk, int0, intW, vr, kk, rtS, rnS, exS, orE, andE, chn, ifE, trB, truW, lstOf, seqOf, lstK, passS, noS, setS, asgS, parS, axc, axn, flE, lsE, tupE, clE, mthE, mkE, isIns, fldW, setFS, augFS, setFd, gFd, gNm, gTp, gsC, gsN, augS, lenF, absF, intF, allF, anyF, sumF, maxF, minF, listF, listLF, tupF, isiW, tyOf, Ty.le, ixW, lmE, appF, extF, popF, flatW, veqW, inW, ninW, forS, sqI, lpS, forL, rg1, rg2, slE, slF, slLF, oxn, oxs, inT, getT, isnW, nonW, isbW, nibW, idxF, firstI, gSb, setI, ixN, bkS, ctS, whS, eq_int, ne_int, eq_bl, ne_bl, atI_l0, atI_l1, atI_l2, atI_l3, intsOf_map, blsOf_map, intsOf_mapf, blsOf_mapf, intsOf_mapc, blsOf_mapc, lstK, h1, h2, h3, actW]
  simp only [pf] at h
  by_cases h4 : b < 224
  · simp only [if_neg h1, if_neg h2, if_neg h3, if_pos h4]
    simp [bodyD, pad, sqS, ifS, orB, andB, notB, tb, bn, un, addW, mulW, negW, notW, mulOk, int0, intW, vr, kk, rtS, rnS, exS, orE, andE, chn, ifE, trB, truW, lstOf, seqOf, lstK, passS, noS, setS, asgS, parS, axc, axn, flE, lsE, tupE, clE, mthE, mkE, isIns, fldW, setFS, augFS, setFd, gFd, gNm, gTp, gsC, gsN, augS, lenF, absF, intF, allF, anyF, sumF, maxF, minF, listF, listLF, tupF, isiW, tyOf, Ty.le, ixW, lmE, appF, extF, popF, flatW, veqW, inW, ninW, forS, sqI, lpS, forL, rg1, rg2, slE, slF, slLF, oxn, oxs, inT, getT, isnW, nonW, isbW, nibW, idxF, firstI, gSb, setI, ixN, bkS, ctS, whS, eq_int, ne_int, eq_bl, ne_bl, atI_l0, atI_l1, atI_l2, atI_l3, intsOf_map, blsOf_map, intsOf_mapf, blsOf_mapf, intsOf_mapc, blsOf_mapc, lstK, h, hs, h1, h2, h3, h4]
  by_cases h5 : b < 240
  · simp only [if_neg h1, if_neg h2, if_neg h3, if_neg h4, if_pos h5]
    simp [bodyD, pad, sqS, ifS, orB, andB, notB, tb, bn, un, addW, mulW, negW, notW, mulOk, int0, intW, vr, kk, rtS, rnS, exS, orE, andE, chn, ifE, trB, truW, lstOf, seqOf, lstK, passS, noS, setS, asgS, parS, axc, axn, flE, lsE, tupE, clE, mthE, mkE, isIns, fldW, setFS, augFS, setFd, gFd, gNm, gTp, gsC, gsN, augS, lenF, absF, intF, allF, anyF, sumF, maxF, minF, listF, listLF, tupF, isiW, tyOf, Ty.le, ixW, lmE, appF, extF, popF, flatW, veqW, inW, ninW, forS, sqI, lpS, forL, rg1, rg2, slE, slF, slLF, oxn, oxs, inT, getT, isnW, nonW, isbW, nibW, idxF, firstI, gSb, setI, ixN, bkS, ctS, whS, eq_int, ne_int, eq_bl, ne_bl, atI_l0, atI_l1, atI_l2, atI_l3, intsOf_map, blsOf_map, intsOf_mapf, blsOf_mapf, intsOf_mapc, blsOf_mapc, lstK, h, hs, h1, h2, h3, h4, h5]
  · simp only [if_neg h1, if_neg h2, if_neg h3, if_neg h4, if_neg h5]
    simp [bodyD, pad, sqS, ifS, orB, andB, notB, tb, bn, un, addW, mulW, negW, notW, mulOk, int0, intW, vr, kk, rtS, rnS, exS, orE, andE, chn, ifE, trB, truW, lstOf, seqOf, lstK, passS, noS, setS, asgS, parS, axc, axn, flE, lsE, tupE, clE, mthE, mkE, isIns, fldW, setFS, augFS, setFd, gFd, gNm, gTp, gsC, gsN, augS, lenF, absF, intF, allF, anyF, sumF, maxF, minF, listF, listLF, tupF, isiW, tyOf, Ty.le, ixW, lmE, appF, extF, popF, flatW, veqW, inW, ninW, forS, sqI, lpS, forL, rg1, rg2, slE, slF, slLF, oxn, oxs, inT, getT, isnW, nonW, isbW, nibW, idxF, firstI, gSb, setI, ixN, bkS, ctS, whS, eq_int, ne_int, eq_bl, ne_bl, atI_l0, atI_l1, atI_l2, atI_l3, intsOf_map, blsOf_map, intsOf_mapf, blsOf_mapf, intsOf_mapc, blsOf_mapc, lstK, h, hs, h1, h2, h3, h4, h5]
def P0 : PS := ⟨0, 0, 0, 0, 0, [0], true, true, false, []⟩
theorem init_den (st : Sto) : r_Parser_init [.loc st.length] (st ++ [.ins 0 (List.replicate 10 none)]) = .ok .non (st ++ [.ins 0 (pf P0 (st.length + 1) (st.length + 2)), .lst [.int 0], .lst []]) := by
  unfold r_Parser_init
  simp [bodyD, pad, sqS, ifS, orB, andB, notB, tb, bn, un, addW, mulW, negW, notW, mulOk, int0, intW, vr, kk, rtS, rnS, exS, orE, andE, chn, ifE, trB, truW, lstOf, seqOf, lstK, passS, noS, setS, asgS, parS, axc, axn, flE, lsE, tupE, clE, mthE, mkE, isIns, fldW, setFS, augFS, setFd, gFd, gNm, gTp, gsC, gsN, augS, lenF, absF, intF, allF, anyF, sumF, maxF, minF, listF, listLF, tupF, isiW, tyOf, Ty.le, ixW, lmE, appF, extF, popF, flatW, veqW, inW, ninW, forS, sqI, lpS, forL, rg1, rg2, slE, slF, slLF, oxn, oxs, inT, getT, isnW, nonW, isbW, nibW, idxF, firstI, gSb, setI, ixN, bkS, ctS, whS, eq_int, ne_int, eq_bl, ne_bl, atI_l0, atI_l1, atI_l2, atI_l3, intsOf_map, blsOf_map, intsOf_mapf, blsOf_mapf, intsOf_mapc, blsOf_mapc, lstK, at0, set0, List.replicate, P0]

/-- the parser at its place, its two lists -/
structure PAt (s : Sto) (l nl sl : Nat) (p : PS) : Prop where
  ob : s[l]? = some (.ins 0 (pf p nl sl))
  ns : s[nl]? = some (.lst (p.numbers.map W.int))
  ss : s[sl]? = some (.lst (p.string.map W.int))
  n1 : l ≠ nl
  n2 : l ≠ sl
  n3 : nl ≠ sl
/-- what a step leaves alone -/
structure PFr (s s' : Sto) (l nl sl nl' sl' : Nat) : Prop where
  len : s.length ≤ s'.length
  a : nl' = nl ∨ s.length ≤ nl'
  b : sl' = sl ∨ s.length ≤ sl'
  keep : ∀ i, i < s.length → i ≠ l → i ≠ nl → i ≠ sl → s'[i]? = s[i]?
theorem PFr.refl (s : Sto) (l nl sl : Nat) : PFr s s l nl sl nl sl := ⟨Nat.le_refl _, .inl rfl, .inl rfl, fun _ _ _ _ _ => rfl⟩
theorem PFr.trans {s s1 s2 : Sto} {l nl sl nl1 sl1 nl2 sl2 : Nat} (x : PFr s s1 l nl sl nl1 sl1) (y : PFr s1 s2 l nl1 sl1 nl2 sl2) : PFr s s2 l nl sl nl2 sl2 := by
  have xl := x.len
  have yl := y.len
  refine ⟨by omega, ?_, ?_, fun i hi h1 h2 h3 => ?_⟩
  · rcases y.a with h | h
    · rw [h]; exact x.a
    · exact .inr (by omega)
  · rcases y.b with h | h
    · rw [h]; exact x.b
    · exact .inr (by omega)
  · rw [y.keep i (by omega) h1 (fun e => ?_) (fun e => ?_)]
    · exact x.keep i hi h1 h2 h3
    · rcases x.a with h | h
      · exact h2 (by rw [e, h])
      · omega
    · rcases x.b with h | h
      · exact h3 (by rw [e, h])
      · omega
/-- fields alone are stored -/
theorem PAt.fld {s : Sto} {l nl sl : Nat} {p : PS} (h : PAt s l nl sl p) (q : PS) (e1 : q.numbers = p.numbers) (e2 : q.string = p.string) : PAt (s.set l (.ins 0 (pf q nl sl))) l nl sl q ∧ PFr s (s.set l (.ins 0 (pf q nl sl))) l nl sl nl sl :=
  ⟨⟨List.getElem?_set_self (lt_of_at h.ob), by rw [List.getElem?_set_ne h.n1, e1]; exact h.ns, by rw [List.getElem?_set_ne h.n2, e2]; exact h.ss, h.n1, h.n2, h.n3⟩,
    ⟨by simp, .inl rfl, .inl rfl, fun i _ h1 _ _ => List.getElem?_set_ne (Ne.symm h1)⟩⟩
theorem PAt.lt {s : Sto} {l nl sl : Nat} {p : PS} (h : PAt s l nl sl p) : l < s.length ∧ nl < s.length ∧ sl < s.length := ⟨lt_of_at h.ob, lt_of_at h.ns, lt_of_at h.ss⟩
theorem PAt.newN {s : Sto} {l nl sl : Nat} {p : PS} (h : PAt s l nl sl p) (q : PS) (e2 : q.string = p.string) : PAt (s.set l (.ins 0 (pf q s.length sl)) ++ [.lst (q.numbers.map W.int)]) l s.length sl q ∧ PFr s (s.set l (.ins 0 (pf q s.length sl)) ++ [.lst (q.numbers.map W.int)]) l nl sl s.length sl := by
  obtain ⟨a, b, c⟩ := h.lt
  refine ⟨⟨by rw [List.getElem?_append_left (by simpa using a)]; exact List.getElem?_set_self a, by simp, by rw [List.getElem?_append_left (by simpa using c), List.getElem?_set_ne h.n2, e2]; exact h.ss, by omega, h.n2, by omega⟩,
    ⟨by simp, .inr (Nat.le_refl _), .inl rfl, fun i hi h1 _ _ => by rw [List.getElem?_append_left (by simpa using hi)]; exact List.getElem?_set_ne (Ne.symm h1)⟩⟩
theorem PAt.newS {s : Sto} {l nl sl : Nat} {p : PS} (h : PAt s l nl sl p) (q : PS) (e1 : q.numbers = p.numbers) : PAt (s.set l (.ins 0 (pf q nl s.length)) ++ [.lst (q.string.map W.int)]) l nl s.length q ∧ PFr s (s.set l (.ins 0 (pf q nl s.length)) ++ [.lst (q.string.map W.int)]) l nl sl nl s.length := by
  obtain ⟨a, b, c⟩ := h.lt
  refine ⟨⟨by rw [List.getElem?_append_left (by simpa using a)]; exact List.getElem?_set_self a, by rw [List.getElem?_append_left (by simpa using b), List.getElem?_set_ne h.n1, e1]; exact h.ns, by simp, h.n1, by omega, by omega⟩,
    ⟨by simp, .inl rfl, .inr (Nat.le_refl _), fun i hi h1 _ _ => by rw [List.getElem?_append_left (by simpa using hi)]; exact List.getElem?_set_ne (Ne.symm h1)⟩⟩
/-- a method's answer -/
def Gives (r : List W → Sto → R W) (args : List W) (s : Sto) (l nl sl : Nat) (a : PS × List Act) : Prop :=
  ∃ s' nl' sl', r (.loc l :: args) s = .ok (.fl (a.2.map actW)) s' ∧ PAt s' l nl' sl' a.1 ∧ PFr s s' l nl sl nl' sl'
def escapeP (p : PS) (b : Int) : PS × List Act :=
  if b = 91 then ({ p with mode := 3, priv := 0, numbers := [0], valid := true, first := true }, [])
  else if b = 80 ∨ b = 88 ∨ b = 93 ∨ b = 94 ∨ b = 95 then ({ p with mode := 4, isTitle := b == 93, string := [] }, [])
  else if b < 48 then ({ p with mode := 2 }, []) else ({ p with mode := 0 }, [.escape b])
theorem escape_den {s : Sto} {l nl sl : Nat} {p : PS} {b : Int} (h : PAt s l nl sl p) : Gives r_Parser_escape_step [.int b] s l nl sl (escapeP p b) := by
  have lt := h.lt.1
  have ho := h.ob
  have hs : ∀ x, (s.set l x)[l]? = some x := fun x => List.getElem?_set_self lt
  have hsa : ∀ x t, (s.set l x ++ t)[l]? = some x := fun x t => by rw [List.getElem?_append_left (by simpa using lt)]; exact hs x
  have hsp : ∀ x t y, (s.set l x ++ t).set l y = s.set l y ++ t := fun x t y => by rw [List.set_append_left _ _ (by simpa using lt), List.set_set]
  have hin : ∀ s, inW (.int b) w_STRING_STARTS s = .ok (.bl (decide (b = 80 ∨ b = 88 ∨ b = 93 ∨ b = 94 ∨ b = 95))) s := fun s => by
    have e : ∀ k : Int, (k == b) = decide (b = k) := fun k => by
      by_cases h : b = k
      · subst h; simp
      · have h2 : ¬ k = b := fun z => h z.symm
        rw [decide_eq_false h]; simpa using h2
    simp [bodyD, pad, sqS, ifS, orB, andB, notB, tb, bn, un, addW, mulW, negW, notW, mulOk, int0, intW, vr, kk, rtS, rnS, exS, orE, andE, chn, ifE, trB, truW, lstOf, seqOf, lstK, passS, noS, setS, asgS, parS, axc, axn, flE, lsE, tupE, clE, mthE, mkE, isIns, fldW, setFS, augFS, setFd, gFd, gNm, gTp, gsC, gsN, augS, lenF, absF, intF, allF, anyF, sumF, maxF, minF, listF, listLF, tupF, isiW, tyOf, Ty.le, ixW, lmE, appF, extF, popF, flatW, veqW, inW, ninW, forS, sqI, lpS, forL, rg1, rg2, slE, slF, slLF, oxn, oxs, inT, getT, isnW, nonW, isbW, nibW, idxF, firstI, gSb, setI, ixN, bkS, ctS, whS, eq_int, ne_int, eq_bl, ne_bl, atI_l0, atI_l1, atI_l2, atI_l3, intsOf_map, blsOf_map, intsOf_mapf, blsOf_mapf, intsOf_mapc, blsOf_mapc, lstK]
    simp only [e]
  unfold Gives r_Parser_escape_step escapeP
  by_cases h1 : b = 91
  · rw [if_pos h1]
    obtain ⟨a1, a2⟩ := h.newN { p with mode := 3, priv := 0, numbers := [0], valid := true, first := true } rfl
    refine ⟨_, _, _, ?_, a1, a2⟩
    simp only [pf] at ho
    simp [bodyD, pad, sqS, ifS, orB, andB, notB, tb, bn, un, addW, mulW, negW, notW, mulOk, int0, intW, vr, kk, rtS, rnS, exS, orE, andE, chn, ifE, trB, truW, lstOf, seqOf, lstK, passS, noS, setS, asgS, parS, axc, axn, flE, lsE, tupE, clE, mthE, mkE, isIns, fldW, setFS, augFS, setFd, gFd, gNm, gTp, gsC, gsN, augS, lenF, absF, intF, allF, anyF, sumF, maxF, minF, listF, listLF, tupF, isiW, tyOf, Ty.le, ixW, lmE, appF, extF, popF, flatW, veqW, inW, ninW, forS, sqI, lpS, forL, rg1, rg2, slE, slF, slLF, oxn, oxs, inT, getT, isnW, nonW, isbW, nibW, idxF, firstI, gSb, setI, ixN, bkS, ctS, whS, eq_int, ne_int, eq_bl, ne_bl, atI_l0, atI_l1, atI_l2, atI_l3, intsOf_map, blsOf_map, intsOf_mapf, blsOf_mapf, intsOf_mapc, blsOf_mapc, lstK, ho, hs, hsa, hsp, h1, List.set_set]
  rw [if_neg h1]
  have e1 : (b == 91) = false := by simpa using h1
  by_cases h2 : b = 80 ∨ b = 88 ∨ b = 93 ∨ b = 94 ∨ b = 95
  · rw [if_pos h2]
    obtain ⟨a1, a2⟩ := h.newS { p with mode := 4, isTitle := b == 93, string := [] } rfl
    refine ⟨_, _, _, ?_, a1, a2⟩
    simp only [pf] at ho
    simp only [bodyD, pad, sqS, ifS, orB, andB, notB, tb, bn, un, vr, kk, rtS, rnS, exS, orE, andE, chn, ifE, trB, passS, noS, setS, asgS, parS, axc, axn, flE, lsE, tupE, clE, mthE, mkE, lmE, forS, sqI, rg1, rg2, gSb, gFd, setFS, augFS, gNm, gTp, gsC, gsN, augS, augI, bkS, ctS, whS, slE, oxn, oxs, lpS, List.map_cons, List.map_nil, List.length_cons, List.length_nil, List.replicate, List.cons_append, List.nil_append, Nat.reduceAdd, Nat.reduceSub, List.getElem?_cons_succ, List.getElem?_cons_zero, List.set_cons_zero, List.set_cons_succ, R.toS_ok, R.bind_ok, R.toS_ite, R.bind_ite, SR.go_nx, SR.go_rt, SR.go_bk, SR.go_ct, SR.go_ite, SR.lp_nx, SR.lp_rt, SR.lp_bk, SR.lp_ct, SR.lp_ite, fin_nx, fin_rt, fin_ite, W.cb_bl, if_true, if_false, Bool.false_eq_true, eq_int, ne_int, eq_bl, ne_bl, mx2, mn2, int0, notW, truW, fdiv_ok, mod_ok, mul_okl, add_int, neg_int, int_bl, int_int, listLF_fl, listF_fl, listF_tup, listLF_tup, Int.reduceLT, Int.reduceLE, Int.reduceNeg, decide_true, decide_false, e1, hin, h2, ho, hs, hsa, hsp, List.set_set, List.length_set]
  rw [if_neg h2]
  by_cases h3 : b < 48
  · rw [if_pos h3]
    obtain ⟨a1, a2⟩ := h.fld { p with mode := 2 } rfl rfl
    refine ⟨_, _, _, ?_, a1, a2⟩
    simp only [pf] at ho
    simp only [bodyD, pad, sqS, ifS, orB, andB, notB, tb, bn, un, vr, kk, rtS, rnS, exS, orE, andE, chn, ifE, trB, passS, noS, setS, asgS, parS, axc, axn, flE, lsE, tupE, clE, mthE, mkE, lmE, forS, sqI, rg1, rg2, gSb, gFd, setFS, augFS, gNm, gTp, gsC, gsN, augS, augI, bkS, ctS, whS, slE, oxn, oxs, lpS, List.map_cons, List.map_nil, List.length_cons, List.length_nil, List.replicate, List.cons_append, List.nil_append, Nat.reduceAdd, Nat.reduceSub, List.getElem?_cons_succ, List.getElem?_cons_zero, List.set_cons_zero, List.set_cons_succ, R.toS_ok, R.bind_ok, R.toS_ite, R.bind_ite, SR.go_nx, SR.go_rt, SR.go_bk, SR.go_ct, SR.go_ite, SR.lp_nx, SR.lp_rt, SR.lp_bk, SR.lp_ct, SR.lp_ite, fin_nx, fin_rt, fin_ite, W.cb_bl, if_true, if_false, Bool.false_eq_true, eq_int, ne_int, eq_bl, ne_bl, mx2, mn2, int0, notW, truW, fdiv_ok, mod_ok, mul_okl, add_int, neg_int, int_bl, int_int, listLF_fl, listF_fl, listF_tup, listLF_tup, Int.reduceLT, Int.reduceLE, Int.reduceNeg, decide_true, decide_false, e1, hin, h2, h3, ho, hs, hsa, hsp, List.set_set]
  · rw [if_neg h3]
    obtain ⟨a1, a2⟩ := h.fld { p with mode := 0 } rfl rfl
    refine ⟨_, _, _, ?_, a1, a2⟩
    simp only [pf] at ho
    simp only [bodyD, pad, sqS, ifS, orB, andB, notB, tb, bn, un, vr, kk, rtS, rnS, exS, orE, andE, chn, ifE, trB, passS, noS, setS, asgS, parS, axc, axn, flE, lsE, tupE, clE, mthE, mkE, lmE, forS, sqI, rg1, rg2, gSb, gFd, setFS, augFS, gNm, gTp, gsC, gsN, augS, augI, bkS, ctS, whS, slE, oxn, oxs, lpS, List.map_cons, List.map_nil, List.length_cons, List.length_nil, List.replicate, List.cons_append, List.nil_append, Nat.reduceAdd, Nat.reduceSub, List.getElem?_cons_succ, List.getElem?_cons_zero, List.set_cons_zero, List.set_cons_succ, R.toS_ok, R.bind_ok, R.toS_ite, R.bind_ite, SR.go_nx, SR.go_rt, SR.go_bk, SR.go_ct, SR.go_ite, SR.lp_nx, SR.lp_rt, SR.lp_bk, SR.lp_ct, SR.lp_ite, fin_nx, fin_rt, fin_ite, W.cb_bl, if_true, if_false, Bool.false_eq_true, eq_int, ne_int, eq_bl, ne_bl, mx2, mn2, int0, notW, truW, fdiv_ok, mod_ok, mul_okl, add_int, neg_int, int_bl, int_int, listLF_fl, listF_fl, listF_tup, listLF_tup, Int.reduceLT, Int.reduceLE, Int.reduceNeg, decide_true, decide_false, e1, hin, h2, h3, ho, hs, hsa, hsp, List.set_set]
    rfl

/-! Parser_sequence_step -/
def r_Parser_sequence_step : List W → Sto → R W := bodyD 3 (sqS (ifS (tb (bn geW (vr 1) (kk (.int 64)))) (sqS (setFS 0 0 (vr 0) (kk (.int 0))) (sqS (ifS (notB (trB (un (fldW 0 6) (vr 0)))) (rtS (flE axn)) passS) (rtS (flE (axc (tupE (axc (kk (.str "sequence")) (axc (un (fldW 0 4) (vr 0)) (axc (clE tupF (axc (slE slF (un (fldW 0 5) (vr 0)) oxn (oxs (kk (.int 16)))) axn)) (axc (vr 1) axn))))) axn))))) passS) (sqS (ifS (tb (chn leW leW (kk (.int 48)) (vr 1) (kk (.int 57)))) (sqS (setS 2 (bn subW (bn addW (bn mulW (bn ixW (un (fldW 0 5) (vr 0)) (un negW (kk (.int 1)))) (kk (.int 10))) (vr 1)) (kk (.int 48)))) (asgS (clE minF (axc (vr 2) (axc (kk (.int 9999)) axn))) (gSb (un (fldW 0 5) (vr 0)) (un negW (kk (.int 1)))))) (ifS (tb (bn eqW (vr 1) (kk (.int 59)))) (ifS (tb (bn leW (clE lenF (axc (un (fldW 0 5) (vr 0)) axn)) (kk (.int 16)))) (exS (lmE appF (un (fldW 0 5) (vr 0)) (axc (kk (.int 0)) axn))) passS) (ifS (andB (tb (bn geW (vr 1) (kk (.int 60)))) (trB (un (fldW 0 7) (vr 0)))) (setFS 0 4 (vr 0) (vr 1)) (setFS 0 6 (vr 0) (kk (.bl false)))))) (sqS (setFS 0 7 (vr 0) (kk (.bl false))) (rtS (flE axn)))))
abbrev d_Parser_sequence_step : List W → Sto → R W := r_Parser_sequence_step
def seqP (p : PS) (b : Int) : PS × List Act :=
  if 64 ≤ b then ({ p with mode := 0 }, if p.valid = true then [.seq p.priv (p.numbers.take 16) b] else [])
  else if 48 ≤ b ∧ b ≤ 57 then ({ p with numbers := p.numbers.set (p.numbers.length - 1) (min (p.numbers.getD (p.numbers.length - 1) 0 * 10 + b - 48) 9999), first := false }, [])
  else if b = 59 then (if p.numbers.length ≤ 16 then { p with numbers := p.numbers ++ [0], first := false } else { p with first := false }, [])
  else if 60 ≤ b ∧ p.first = true then ({ p with priv := b, first := false }, [])
  else ({ p with valid := false, first := false }, [])
/-- the numbers are stored, then fields -/
theorem PAt.setN {s : Sto} {l nl sl : Nat} {p : PS} (h : PAt s l nl sl p) (q : PS) (e2 : q.string = p.string) : PAt ((s.set nl (.lst (q.numbers.map W.int))).set l (.ins 0 (pf q nl sl))) l nl sl q ∧ PFr s ((s.set nl (.lst (q.numbers.map W.int))).set l (.ins 0 (pf q nl sl))) l nl sl nl sl := by
  obtain ⟨a, b, c⟩ := h.lt
  refine ⟨⟨List.getElem?_set_self (by simpa using a), by rw [List.getElem?_set_ne h.n1]; exact List.getElem?_set_self b, by rw [List.getElem?_set_ne h.n2, List.getElem?_set_ne h.n3, e2]; exact h.ss, h.n1, h.n2, h.n3⟩,
    ⟨by simp, .inl rfl, .inl rfl, fun i _ h1 h2 _ => by rw [List.getElem?_set_ne (Ne.symm h1), List.getElem?_set_ne (Ne.symm h2)]⟩⟩
theorem PAt.setS {s : Sto} {l nl sl : Nat} {p : PS} (h : PAt s l nl sl p) (q : PS) (e1 : q.numbers = p.numbers) : PAt ((s.set sl (.lst (q.string.map W.int))).set l (.ins 0 (pf q nl sl))) l nl sl q ∧ PFr s ((s.set sl (.lst (q.string.map W.int))).set l (.ins 0 (pf q nl sl))) l nl sl nl sl := by
  obtain ⟨a, b, c⟩ := h.lt
  refine ⟨⟨List.getElem?_set_self (by simpa using a), by rw [List.getElem?_set_ne h.n1, List.getElem?_set_ne (Ne.symm h.n3), e1]; exact h.ns, by rw [List.getElem?_set_ne h.n2]; exact List.getElem?_set_self c, h.n1, h.n2, h.n3⟩,
    ⟨by simp, .inl rfl, .inl rfl, fun i _ h1 _ h3 => by rw [List.getElem?_set_ne (Ne.symm h1), List.getElem?_set_ne (Ne.symm h3)]⟩⟩
theorem ixN_m1 {n : Nat} (h : 0 < n) : ixN n (-1) = some (n - 1) := by
  unfold ixN
  rw [if_neg (by omega), if_pos (by omega)]
  congr 1
  omega
theorem ix_last {s : Sto} {nl : Nat} {xs : List Int} (h : s[nl]? = some (.lst (xs.map W.int))) (hx : xs ≠ []) : ixW (.loc nl) (.int (-1)) s = .ok (.int (xs.getD (xs.length - 1) 0)) s := by
  have hl : 0 < xs.length := List.length_pos_iff.mpr hx
  have a : atI (xs.map W.int) (-1) = some (.int (xs.getD (xs.length - 1) 0)) := by
    unfold atI
    rw [ixN_m1 (by simpa using hl), Option.bind_some, List.length_map, List.getElem?_map]
    have : xs.length - 1 < xs.length := by omega
    simp [List.getD, this]
  simp only [ixW, seqOf, lstOf, h, a]
theorem setI_last {s : Sto} {nl : Nat} {xs : List Int} {v : Int} (h : s[nl]? = some (.lst (xs.map W.int))) (hx : xs ≠ []) : setI (.loc nl) (.int (-1)) (.int v) s = .ok () (s.set nl (.lst ((xs.set (xs.length - 1) v).map W.int))) := by
  have hl : 0 < xs.length := List.length_pos_iff.mpr hx
  have a : ixN (xs.map W.int).length (-1) = some (xs.length - 1) := by
    rw [ixN_m1 (by simpa using hl), List.length_map]
  simp only [setI, h, a, List.map_set]
theorem sl16 {s : Sto} {nl : Nat} {xs : List Int} (h : s[nl]? = some (.lst (xs.map W.int))) : slF (.loc nl) none (some 16) s = .ok (.fl ((xs.take 16).map W.int)) s := by
  have := cutL_to (xs.map W.int) 16
  simp only [slF, lstK, lstOf, h]
  rw [List.map_take, ← this]
  rfl
theorem app_at {s : Sto} {nl : Nat} {ws : List W} {w : W} (h : s[nl]? = some (.lst ws)) (hl : ws.length < 10000000) : appF (.loc nl) [w] s = .ok .non (s.set nl (.lst (ws ++ [w]))) := by
  simp only [appF, h]
  rw [if_pos (ck_iff.mpr hl)]
theorem seq_den {s : Sto} {l nl sl : Nat} {p : PS} {b : Int} (h : PAt s l nl sl p) (hne : p.numbers ≠ []) (hlen : p.numbers.length ≤ 17) : Gives r_Parser_sequence_step [.int b] s l nl sl (seqP p b) := by
  have lt := h.lt.1
  have ltn := h.lt.2.1
  have ho := h.ob
  have hn := h.ns
  have hs : ∀ x, (s.set l x)[l]? = some x := fun x => List.getElem?_set_self lt
  have hsn : ∀ x, (s.set l x)[nl]? = s[nl]? := fun x => List.getElem?_set_ne h.n1
  have hns : ∀ x, (s.set nl x)[l]? = s[l]? := fun x => List.getElem?_set_ne (Ne.symm h.n1)
  have hl : lenF [.loc nl] s = .ok (.int (p.numbers.length : Int)) s := by simp [lenF, seqOf, lstOf, hn]
  have lkn : lstK s (.loc nl) = some (p.numbers.map W.int) := by simp [lstK, lstOf, hn]
  have ng : ∀ s, negW (.int 1) s = .ok (.int (-1)) s := fun s => rfl
  have fl : ∀ (s : Sto) (j : Nat) (w : W) (fs : List (Option W)), s[l]? = some (.ins 0 fs) → fs[j]? = some (some w) → fldW 0 j (.loc l) s = .ok w s := fun s j w fs h1 h2 => by simp [fldW, h1, h2]
  unfold Gives r_Parser_sequence_step seqP
  simp only [pf] at ho
  by_cases h1 : 64 ≤ b
  · rw [if_pos h1]
    obtain ⟨a1, a2⟩ := h.fld { p with mode := 0 } rfl rfl
    refine ⟨_, _, _, ?_, a1, a2⟩
    have s16 := sl16 (s := s.set l (.ins 0 (pf { p with mode := 0 } nl sl))) (nl := nl) (xs := p.numbers) (by rw [hsn]; exact hn)
    simp only [pf] at s16
    by_cases hv : p.valid = true
    · rw [hv] at s16 ho
      simp only [bodyD, pad, sqS, ifS, orB, andB, notB, tb, bn, un, vr, kk, rtS, rnS, exS, orE, andE, chn, ifE, trB, passS, noS, setS, asgS, parS, axc, axn, flE, lsE, tupE, clE, mthE, mkE, lmE, forS, sqI, rg1, rg2, gSb, gFd, setFS, augFS, gNm, gTp, gsC, gsN, augS, augI, bkS, ctS, whS, slE, oxn, oxs, lpS, List.map_cons, List.map_nil, List.length_cons, List.length_nil, List.replicate, List.cons_append, List.nil_append, Nat.reduceAdd, Nat.reduceSub, List.getElem?_cons_succ, List.getElem?_cons_zero, List.set_cons_zero, List.set_cons_succ, R.toS_ok, R.bind_ok, R.toS_ite, R.bind_ite, SR.go_nx, SR.go_rt, SR.go_bk, SR.go_ct, SR.go_ite, SR.lp_nx, SR.lp_rt, SR.lp_bk, SR.lp_ct, SR.lp_ite, fin_nx, fin_rt, fin_ite, W.cb_bl, if_true, if_false, Bool.false_eq_true, eq_int, ne_int, eq_bl, ne_bl, mx2, mn2, int0, notW, truW, fdiv_ok, mod_ok, mul_okl, add_int, neg_int, int_bl, int_int, listLF_fl, listF_fl, listF_tup, listLF_tup, Int.reduceLT, Int.reduceLE, Int.reduceNeg, decide_true, decide_false, h1, decide_true, ho, hs, fldW, hv, Bool.not_true, s16, tupF, seqOf_fl, actW]
    · have hv : p.valid = false := by simpa using hv
      simp only [bodyD, pad, sqS, ifS, orB, andB, notB, tb, bn, un, vr, kk, rtS, rnS, exS, orE, andE, chn, ifE, trB, passS, noS, setS, asgS, parS, axc, axn, flE, lsE, tupE, clE, mthE, mkE, lmE, forS, sqI, rg1, rg2, gSb, gFd, setFS, augFS, gNm, gTp, gsC, gsN, augS, augI, bkS, ctS, whS, slE, oxn, oxs, lpS, List.map_cons, List.map_nil, List.length_cons, List.length_nil, List.replicate, List.cons_append, List.nil_append, Nat.reduceAdd, Nat.reduceSub, List.getElem?_cons_succ, List.getElem?_cons_zero, List.set_cons_zero, List.set_cons_succ, R.toS_ok, R.bind_ok, R.toS_ite, R.bind_ite, SR.go_nx, SR.go_rt, SR.go_bk, SR.go_ct, SR.go_ite, SR.lp_nx, SR.lp_rt, SR.lp_bk, SR.lp_ct, SR.lp_ite, fin_nx, fin_rt, fin_ite, W.cb_bl, if_true, if_false, Bool.false_eq_true, eq_int, ne_int, eq_bl, ne_bl, mx2, mn2, int0, notW, truW, fdiv_ok, mod_ok, mul_okl, add_int, neg_int, int_bl, int_int, listLF_fl, listF_fl, listF_tup, listLF_tup, Int.reduceLT, Int.reduceLE, Int.reduceNeg, decide_true, decide_false, h1, decide_true, ho, hs, fldW, hv, Bool.not_false]
  have e1 : ¬ (64 ≤ b) := h1
  rw [if_neg h1]
  by_cases h2 : 48 ≤ b ∧ b ≤ 57
  · rw [if_pos h2]
    obtain ⟨a1, a2⟩ := h.setN { p with numbers := p.numbers.set (p.numbers.length - 1) (min (p.numbers.getD (p.numbers.length - 1) 0 * 10 + b - 48) 9999), first := false } rfl
    refine ⟨_, _, _, ?_, a1, a2⟩
    have il := ix_last hn hne
    have sl := fun v => setI_last (v := v) hn hne
    have mul : mulW (.int (p.numbers.getD (p.numbers.length - 1) 0)) (.int 10) s = .ok (.int (p.numbers.getD (p.numbers.length - 1) 0 * 10)) s := by
      have : mulOk (p.numbers.getD (p.numbers.length - 1) 0) 10 = true := by unfold mulOk; rw [ck_iff]; right; omega
      simp only [mulW]
      rw [if_pos this]
    generalize p.numbers.getD (p.numbers.length - 1) 0 = z at *
    simp only [pf]
    simp only [bodyD, pad, sqS, ifS, orB, andB, notB, tb, bn, un, vr, kk, rtS, rnS, exS, orE, andE, chn, ifE, trB, passS, noS, setS, asgS, parS, axc, axn, flE, lsE, tupE, clE, mthE, mkE, lmE, forS, sqI, rg1, rg2, gSb, gFd, setFS, augFS, gNm, gTp, gsC, gsN, augS, augI, bkS, ctS, whS, slE, oxn, oxs, lpS, List.map_cons, List.map_nil, List.length_cons, List.length_nil, List.replicate, List.cons_append, List.nil_append, Nat.reduceAdd, Nat.reduceSub, List.getElem?_cons_succ, List.getElem?_cons_zero, List.set_cons_zero, List.set_cons_succ, R.toS_ok, R.bind_ok, R.toS_ite, R.bind_ite, SR.go_nx, SR.go_rt, SR.go_bk, SR.go_ct, SR.go_ite, SR.lp_nx, SR.lp_rt, SR.lp_bk, SR.lp_ct, SR.lp_ite, fin_nx, fin_rt, fin_ite, W.cb_bl, if_true, if_false, Bool.false_eq_true, eq_int, ne_int, eq_bl, ne_bl, mx2, mn2, int0, notW, truW, fdiv_ok, mod_ok, mul_okl, add_int, neg_int, int_bl, int_int, listLF_fl, listF_fl, listF_tup, listLF_tup, Int.reduceLT, Int.reduceLE, Int.reduceNeg, decide_true, decide_false, e1, decide_false, h2.1, h2.2, decide_true, ho, hs, hns, fldW, ng, il, mul, minF, sl]
  rw [if_neg h2]
  have r2 : (decide (48 ≤ b) && decide (b ≤ 57)) = false := by
    rw [← Bool.decide_and]; exact decide_eq_false h2
  have chn2 : ∀ e : En, e = [some (.loc l), some (.int b), none] → tb (chn leW leW (kk (.int 48)) (vr 1) (kk (.int 57))) e s = .ok false s := by
    rintro _ rfl
    by_cases h3 : 48 ≤ b
    · have h4 : ¬ b ≤ 57 := fun h4 => h2 ⟨h3, h4⟩
      simp only [bodyD, pad, sqS, ifS, orB, andB, notB, tb, bn, un, vr, kk, rtS, rnS, exS, orE, andE, chn, ifE, trB, passS, noS, setS, asgS, parS, axc, axn, flE, lsE, tupE, clE, mthE, mkE, lmE, forS, sqI, rg1, rg2, gSb, gFd, setFS, augFS, gNm, gTp, gsC, gsN, augS, augI, bkS, ctS, whS, slE, oxn, oxs, lpS, List.map_cons, List.map_nil, List.length_cons, List.length_nil, List.replicate, List.cons_append, List.nil_append, Nat.reduceAdd, Nat.reduceSub, List.getElem?_cons_succ, List.getElem?_cons_zero, List.set_cons_zero, List.set_cons_succ, R.toS_ok, R.bind_ok, R.toS_ite, R.bind_ite, SR.go_nx, SR.go_rt, SR.go_bk, SR.go_ct, SR.go_ite, SR.lp_nx, SR.lp_rt, SR.lp_bk, SR.lp_ct, SR.lp_ite, fin_nx, fin_rt, fin_ite, W.cb_bl, if_true, if_false, Bool.false_eq_true, eq_int, ne_int, eq_bl, ne_bl, mx2, mn2, int0, notW, truW, fdiv_ok, mod_ok, mul_okl, add_int, neg_int, int_bl, int_int, listLF_fl, listF_fl, listF_tup, listLF_tup, Int.reduceLT, Int.reduceLE, Int.reduceNeg, decide_true, decide_false, h3, decide_true, h4, decide_false]
    · simp only [bodyD, pad, sqS, ifS, orB, andB, notB, tb, bn, un, vr, kk, rtS, rnS, exS, orE, andE, chn, ifE, trB, passS, noS, setS, asgS, parS, axc, axn, flE, lsE, tupE, clE, mthE, mkE, lmE, forS, sqI, rg1, rg2, gSb, gFd, setFS, augFS, gNm, gTp, gsC, gsN, augS, augI, bkS, ctS, whS, slE, oxn, oxs, lpS, List.map_cons, List.map_nil, List.length_cons, List.length_nil, List.replicate, List.cons_append, List.nil_append, Nat.reduceAdd, Nat.reduceSub, List.getElem?_cons_succ, List.getElem?_cons_zero, List.set_cons_zero, List.set_cons_succ, R.toS_ok, R.bind_ok, R.toS_ite, R.bind_ite, SR.go_nx, SR.go_rt, SR.go_bk, SR.go_ct, SR.go_ite, SR.lp_nx, SR.lp_rt, SR.lp_bk, SR.lp_ct, SR.lp_ite, fin_nx, fin_rt, fin_ite, W.cb_bl, if_true, if_false, Bool.false_eq_true, eq_int, ne_int, eq_bl, ne_bl, mx2, mn2, int0, notW, truW, fdiv_ok, mod_ok, mul_okl, add_int, neg_int, int_bl, int_int, listLF_fl, listF_fl, listF_tup, listLF_tup, Int.reduceLT, Int.reduceLE, Int.reduceNeg, decide_true, decide_false, h3, decide_false]
  have chn3 := chn2 _ rfl
  by_cases h3 : b = 59
  · rw [if_pos h3]
    subst h3
    have b59 : ((59 : Int) == 59) = true := rfl
    by_cases h4 : p.numbers.length ≤ 16
    · rw [if_pos h4]
      obtain ⟨a1, a2⟩ := h.setN { p with numbers := p.numbers ++ [0], first := false } rfl
      refine ⟨_, _, _, ?_, a1, a2⟩
      have ap := app_at (w := .int 0) hn (by simp; omega)
      have h5 : decide ((p.numbers.length : Int) ≤ 16) = true := decide_eq_true (by omega)
      simp only [pf]
      simp only [bodyD, pad, sqS, ifS, orB, andB, notB, tb, bn, un, vr, kk, rtS, rnS, exS, orE, andE, chn, ifE, trB, passS, noS, setS, asgS, parS, axc, axn, flE, lsE, tupE, clE, mthE, mkE, lmE, forS, sqI, rg1, rg2, gSb, gFd, setFS, augFS, gNm, gTp, gsC, gsN, augS, augI, bkS, ctS, whS, slE, oxn, oxs, lpS, List.map_cons, List.map_nil, List.length_cons, List.length_nil, List.replicate, List.cons_append, List.nil_append, Nat.reduceAdd, Nat.reduceSub, List.getElem?_cons_succ, List.getElem?_cons_zero, List.set_cons_zero, List.set_cons_succ, R.toS_ok, R.bind_ok, R.toS_ite, R.bind_ite, SR.go_nx, SR.go_rt, SR.go_bk, SR.go_ct, SR.go_ite, SR.lp_nx, SR.lp_rt, SR.lp_bk, SR.lp_ct, SR.lp_ite, fin_nx, fin_rt, fin_ite, W.cb_bl, if_true, if_false, Bool.false_eq_true, eq_int, ne_int, eq_bl, ne_bl, mx2, mn2, int0, notW, truW, fdiv_ok, mod_ok, mul_okl, add_int, neg_int, int_bl, int_int, listLF_fl, listF_fl, listF_tup, listLF_tup, Int.reduceLT, Int.reduceLE, Int.reduceNeg, decide_true, decide_false, decide_true, decide_false, ho, hs, hns, fldW, hl, h5, b59, lkn, ap, List.map_append]
    · rw [if_neg h4]
      obtain ⟨a1, a2⟩ := h.fld { p with first := false } rfl rfl
      refine ⟨_, _, _, ?_, a1, a2⟩
      have h5 : decide ((p.numbers.length : Int) ≤ 16) = false := decide_eq_false (by omega)
      simp only [pf]
      simp only [bodyD, pad, sqS, ifS, orB, andB, notB, tb, bn, un, vr, kk, rtS, rnS, exS, orE, andE, chn, ifE, trB, passS, noS, setS, asgS, parS, axc, axn, flE, lsE, tupE, clE, mthE, mkE, lmE, forS, sqI, rg1, rg2, gSb, gFd, setFS, augFS, gNm, gTp, gsC, gsN, augS, augI, bkS, ctS, whS, slE, oxn, oxs, lpS, List.map_cons, List.map_nil, List.length_cons, List.length_nil, List.replicate, List.cons_append, List.nil_append, Nat.reduceAdd, Nat.reduceSub, List.getElem?_cons_succ, List.getElem?_cons_zero, List.set_cons_zero, List.set_cons_succ, R.toS_ok, R.bind_ok, R.toS_ite, R.bind_ite, SR.go_nx, SR.go_rt, SR.go_bk, SR.go_ct, SR.go_ite, SR.lp_nx, SR.lp_rt, SR.lp_bk, SR.lp_ct, SR.lp_ite, fin_nx, fin_rt, fin_ite, W.cb_bl, if_true, if_false, Bool.false_eq_true, eq_int, ne_int, eq_bl, ne_bl, mx2, mn2, int0, notW, truW, fdiv_ok, mod_ok, mul_okl, add_int, neg_int, int_bl, int_int, listLF_fl, listF_fl, listF_tup, listLF_tup, Int.reduceLT, Int.reduceLE, Int.reduceNeg, decide_true, decide_false, decide_true, decide_false, ho, hs, hns, fldW, hl, h5, b59, lkn]
  rw [if_neg h3]
  have e3 : (b == 59) = false := by simpa using h3
  by_cases h4 : 60 ≤ b ∧ p.first = true
  · rw [if_pos h4]
    obtain ⟨a1, a2⟩ := h.fld { p with priv := b, first := false } rfl rfl
    refine ⟨_, _, _, ?_, a1, a2⟩
    obtain ⟨h5, h6⟩ := h4
    simp only [pf]
    rw [h6] at ho
    have h7 : ¬ b ≤ 57 := by omega
    have h8 : (48 : Int) ≤ b := by omega
    simp only [bodyD, pad, sqS, ifS, orB, andB, notB, tb, bn, un, vr, kk, rtS, rnS, exS, orE, andE, chn, ifE, trB, passS, noS, setS, asgS, parS, axc, axn, flE, lsE, tupE, clE, mthE, mkE, lmE, forS, sqI, rg1, rg2, gSb, gFd, setFS, augFS, gNm, gTp, gsC, gsN, augS, augI, bkS, ctS, whS, slE, oxn, oxs, lpS, List.map_cons, List.map_nil, List.length_cons, List.length_nil, List.replicate, List.cons_append, List.nil_append, Nat.reduceAdd, Nat.reduceSub, List.getElem?_cons_succ, List.getElem?_cons_zero, List.set_cons_zero, List.set_cons_succ, R.toS_ok, R.bind_ok, R.toS_ite, R.bind_ite, SR.go_nx, SR.go_rt, SR.go_bk, SR.go_ct, SR.go_ite, SR.lp_nx, SR.lp_rt, SR.lp_bk, SR.lp_ct, SR.lp_ite, fin_nx, fin_rt, fin_ite, W.cb_bl, if_true, if_false, Bool.false_eq_true, eq_int, ne_int, eq_bl, ne_bl, mx2, mn2, int0, notW, truW, fdiv_ok, mod_ok, mul_okl, add_int, neg_int, int_bl, int_int, listLF_fl, listF_fl, listF_tup, listLF_tup, Int.reduceLT, Int.reduceLE, Int.reduceNeg, decide_true, decide_false, e1, e3, h5, h7, h8, decide_true, decide_false, ho, hs, hns, fldW, List.set_set]
  · rw [if_neg h4]
    obtain ⟨a1, a2⟩ := h.fld { p with valid := false, first := false } rfl rfl
    refine ⟨_, _, _, ?_, a1, a2⟩
    simp only [pf]
    by_cases h5 : 60 ≤ b
    · have h6 : p.first = false := by simpa using fun z => h4 ⟨h5, z⟩
      rw [h6] at ho
      have h7 : ¬ b ≤ 57 := by omega
      have h8 : (48 : Int) ≤ b := by omega
      simp only [bodyD, pad, sqS, ifS, orB, andB, notB, tb, bn, un, vr, kk, rtS, rnS, exS, orE, andE, chn, ifE, trB, passS, noS, setS, asgS, parS, axc, axn, flE, lsE, tupE, clE, mthE, mkE, lmE, forS, sqI, rg1, rg2, gSb, gFd, setFS, augFS, gNm, gTp, gsC, gsN, augS, augI, bkS, ctS, whS, slE, oxn, oxs, lpS, List.map_cons, List.map_nil, List.length_cons, List.length_nil, List.replicate, List.cons_append, List.nil_append, Nat.reduceAdd, Nat.reduceSub, List.getElem?_cons_succ, List.getElem?_cons_zero, List.set_cons_zero, List.set_cons_succ, R.toS_ok, R.bind_ok, R.toS_ite, R.bind_ite, SR.go_nx, SR.go_rt, SR.go_bk, SR.go_ct, SR.go_ite, SR.lp_nx, SR.lp_rt, SR.lp_bk, SR.lp_ct, SR.lp_ite, fin_nx, fin_rt, fin_ite, W.cb_bl, if_true, if_false, Bool.false_eq_true, eq_int, ne_int, eq_bl, ne_bl, mx2, mn2, int0, notW, truW, fdiv_ok, mod_ok, mul_okl, add_int, neg_int, int_bl, int_int, listLF_fl, listF_fl, listF_tup, listLF_tup, Int.reduceLT, Int.reduceLE, Int.reduceNeg, decide_true, decide_false, e1, e3, h5, h7, h8, decide_true, decide_false, ho, hs, hns, fldW, List.set_set]
    · by_cases h8 : 48 ≤ b
      · have h7 : ¬ b ≤ 57 := fun z => h2 ⟨h8, z⟩
        simp only [bodyD, pad, sqS, ifS, orB, andB, notB, tb, bn, un, vr, kk, rtS, rnS, exS, orE, andE, chn, ifE, trB, passS, noS, setS, asgS, parS, axc, axn, flE, lsE, tupE, clE, mthE, mkE, lmE, forS, sqI, rg1, rg2, gSb, gFd, setFS, augFS, gNm, gTp, gsC, gsN, augS, augI, bkS, ctS, whS, slE, oxn, oxs, lpS, List.map_cons, List.map_nil, List.length_cons, List.length_nil, List.replicate, List.cons_append, List.nil_append, Nat.reduceAdd, Nat.reduceSub, List.getElem?_cons_succ, List.getElem?_cons_zero, List.set_cons_zero, List.set_cons_succ, R.toS_ok, R.bind_ok, R.toS_ite, R.bind_ite, SR.go_nx, SR.go_rt, SR.go_bk, SR.go_ct, SR.go_ite, SR.lp_nx, SR.lp_rt, SR.lp_bk, SR.lp_ct, SR.lp_ite, fin_nx, fin_rt, fin_ite, W.cb_bl, if_true, if_false, Bool.false_eq_true, eq_int, ne_int, eq_bl, ne_bl, mx2, mn2, int0, notW, truW, fdiv_ok, mod_ok, mul_okl, add_int, neg_int, int_bl, int_int, listLF_fl, listF_fl, listF_tup, listLF_tup, Int.reduceLT, Int.reduceLE, Int.reduceNeg, decide_true, decide_false, e1, e3, h5, h7, h8, decide_true, decide_false, ho, hs, hns, fldW, List.set_set]
      · simp only [bodyD, pad, sqS, ifS, orB, andB, notB, tb, bn, un, vr, kk, rtS, rnS, exS, orE, andE, chn, ifE, trB, passS, noS, setS, asgS, parS, axc, axn, flE, lsE, tupE, clE, mthE, mkE, lmE, forS, sqI, rg1, rg2, gSb, gFd, setFS, augFS, gNm, gTp, gsC, gsN, augS, augI, bkS, ctS, whS, slE, oxn, oxs, lpS, List.map_cons, List.map_nil, List.length_cons, List.length_nil, List.replicate, List.cons_append, List.nil_append, Nat.reduceAdd, Nat.reduceSub, List.getElem?_cons_succ, List.getElem?_cons_zero, List.set_cons_zero, List.set_cons_succ, R.toS_ok, R.bind_ok, R.toS_ite, R.bind_ite, SR.go_nx, SR.go_rt, SR.go_bk, SR.go_ct, SR.go_ite, SR.lp_nx, SR.lp_rt, SR.lp_bk, SR.lp_ct, SR.lp_ite, fin_nx, fin_rt, fin_ite, W.cb_bl, if_true, if_false, Bool.false_eq_true, eq_int, ne_int, eq_bl, ne_bl, mx2, mn2, int0, notW, truW, fdiv_ok, mod_ok, mul_okl, add_int, neg_int, int_bl, int_int, listLF_fl, listF_fl, listF_tup, listLF_tup, Int.reduceLT, Int.reduceLE, Int.reduceNeg, decide_true, decide_false, e1, e3, h5, h8, decide_true, decide_false, ho, hs, hns, fldW, List.set_set]

/-! Parser_end_of_string -/
def r_Parser_end_of_string : List W → Sto → R W := bodyD 3 (sqS (setFS 0 0 (vr 0) (kk (.int 0))) (sqS (ifS (orB (notB (trB (un (fldW 0 8) (vr 0)))) (tb (bn (inDW true) (slE slF (un (fldW 0 9) (vr 0)) oxn (oxs (kk (.int 2)))) (tupE (axc (flE (axc (kk (.int 48)) (axc (kk (.int 59)) axn))) (axc (flE (axc (kk (.int 50)) (axc (kk (.int 59)) axn))) axn)))))) (rtS (flE axn)) passS) (sqS (setS 1 (lcE [2] (sqI (slE slF (un (fldW 0 9) (vr 0)) (oxs (kk (.int 2))) oxn)) (ct1 2) (tb (chn leW leW (kk (.int 32)) (vr 2) (kk (.int 126)))) (vr 2))) (rtS (flE (axc (tupE (axc (kk (.str "title")) (axc (clE tupF (axc (slE slF (vr 1) oxn (oxs (kk (.int 64)))) axn)) axn))) axn))))))
abbrev d_Parser_end_of_string : List W → Sto → R W := r_Parser_end_of_string
def keptP (xs : List Int) : List Int := xs.filter fun b => decide (32 ≤ b) && decide (b ≤ 126)
def isTtl (xs : List Int) : Prop := xs.take 2 = [48, 59] ∨ xs.take 2 = [50, 59]
instance (xs : List Int) : Decidable (isTtl xs) := by unfold isTtl; infer_instance
def endP (p : PS) : PS × List Act := ({ p with mode := 0 }, if p.isTitle = true ∧ isTtl p.string then [.title ((keptP (p.string.drop 2)).take 64)] else [])
theorem sl_to {s : Sto} {nl : Nat} {xs : List Int} (h : s[nl]? = some (.lst (xs.map W.int))) : slF (.loc nl) none (some 2) s = .ok (.fl ((xs.take 2).map W.int)) s := by
  have := cutL_to (xs.map W.int) 2
  simp only [slF, lstK, lstOf, h]
  rw [List.map_take, ← this]
  rfl
theorem sl_from {s : Sto} {nl : Nat} {xs : List Int} (h : s[nl]? = some (.lst (xs.map W.int))) : slF (.loc nl) (some 2) none s = .ok (.fl ((xs.drop 2).map W.int)) s := by
  have := cutL_from (xs.map W.int) 2
  simp only [slF, lstK, lstOf, h]
  rw [List.map_drop, ← this]
  rfl
theorem sl64 (xs : List Int) (s : Sto) : slF (.fl (xs.map W.int)) none (some 64) s = .ok (.fl ((xs.take 64).map W.int)) s := by
  have := cutL_to (xs.map W.int) 64
  simp only [slF, lstK, lstOf]
  rw [List.map_take, ← this]
  rfl
theorem in_titles (xs : List Int) (s : Sto) : inDW true (.fl (xs.map W.int)) (.tup [.fl [.int 48, .int 59], .fl [.int 50, .int 59]]) s = .ok (.bl (!decide (xs = [48, 59] ∨ xs = [50, 59]))) s := by
  have := (cLst cInt).inT (by decide) true xs [[48, 59], [50, 59]] s
  simp only [List.mem_cons, List.not_mem_nil, or_false, if_true] at this
  exact this
theorem kept_lc {l : Nat} {xs : List Int} {m : Ex} {s : Sto} (hl : xs.length ≤ 1000) (hm : m [some (.loc l), none, none] s = .ok (.fl (xs.map W.int)) s) :
    lcE [2] (sqI m) (ct1 2) (tb (chn leW leW (kk (.int 32)) (vr 2) (kk (.int 126)))) (vr 2) [some (.loc l), none, none] s = .ok (.fl ((keptP xs).map W.int)) s := by
  refine lcE_fl hm (by rw [List.length_map]; omega) ?_
  refine lcL_map (p := fun b => decide (32 ≤ b) && decide (b ≤ 126)) (f := W.int) xs fun x _ => ⟨[some (.loc l), none, some (.int x)], rfl, ?_, fun _ => rfl⟩
  by_cases h1 : 32 ≤ x
  · by_cases h2 : x ≤ 126
    · simp only [bodyD, pad, sqS, ifS, orB, andB, notB, tb, bn, un, vr, kk, rtS, rnS, exS, orE, andE, chn, ifE, trB, passS, noS, setS, asgS, parS, axc, axn, flE, lsE, tupE, clE, mthE, mkE, lmE, forS, sqI, rg1, rg2, gSb, gFd, setFS, augFS, gNm, gTp, gsC, gsN, augS, augI, bkS, ctS, whS, slE, oxn, oxs, lpS, List.map_cons, List.map_nil, List.length_cons, List.length_nil, List.replicate, List.cons_append, List.nil_append, Nat.reduceAdd, Nat.reduceSub, List.getElem?_cons_succ, List.getElem?_cons_zero, List.set_cons_zero, List.set_cons_succ, R.toS_ok, R.bind_ok, R.toS_ite, R.bind_ite, SR.go_nx, SR.go_rt, SR.go_bk, SR.go_ct, SR.go_ite, SR.lp_nx, SR.lp_rt, SR.lp_bk, SR.lp_ct, SR.lp_ite, fin_nx, fin_rt, fin_ite, W.cb_bl, if_true, if_false, Bool.false_eq_true, eq_int, ne_int, eq_bl, ne_bl, mx2, mn2, int0, notW, truW, fdiv_ok, mod_ok, mul_okl, add_int, neg_int, int_bl, int_int, listLF_fl, listF_fl, listF_tup, listLF_tup, Int.reduceLT, Int.reduceLE, Int.reduceNeg, decide_true, decide_false, h1, h2, decide_true, Bool.and_self]
    · simp only [bodyD, pad, sqS, ifS, orB, andB, notB, tb, bn, un, vr, kk, rtS, rnS, exS, orE, andE, chn, ifE, trB, passS, noS, setS, asgS, parS, axc, axn, flE, lsE, tupE, clE, mthE, mkE, lmE, forS, sqI, rg1, rg2, gSb, gFd, setFS, augFS, gNm, gTp, gsC, gsN, augS, augI, bkS, ctS, whS, slE, oxn, oxs, lpS, List.map_cons, List.map_nil, List.length_cons, List.length_nil, List.replicate, List.cons_append, List.nil_append, Nat.reduceAdd, Nat.reduceSub, List.getElem?_cons_succ, List.getElem?_cons_zero, List.set_cons_zero, List.set_cons_succ, R.toS_ok, R.bind_ok, R.toS_ite, R.bind_ite, SR.go_nx, SR.go_rt, SR.go_bk, SR.go_ct, SR.go_ite, SR.lp_nx, SR.lp_rt, SR.lp_bk, SR.lp_ct, SR.lp_ite, fin_nx, fin_rt, fin_ite, W.cb_bl, if_true, if_false, Bool.false_eq_true, eq_int, ne_int, eq_bl, ne_bl, mx2, mn2, int0, notW, truW, fdiv_ok, mod_ok, mul_okl, add_int, neg_int, int_bl, int_int, listLF_fl, listF_fl, listF_tup, listLF_tup, Int.reduceLT, Int.reduceLE, Int.reduceNeg, decide_true, decide_false, h1, h2, decide_true, decide_false, Bool.and_false]
  · simp only [bodyD, pad, sqS, ifS, orB, andB, notB, tb, bn, un, vr, kk, rtS, rnS, exS, orE, andE, chn, ifE, trB, passS, noS, setS, asgS, parS, axc, axn, flE, lsE, tupE, clE, mthE, mkE, lmE, forS, sqI, rg1, rg2, gSb, gFd, setFS, augFS, gNm, gTp, gsC, gsN, augS, augI, bkS, ctS, whS, slE, oxn, oxs, lpS, List.map_cons, List.map_nil, List.length_cons, List.length_nil, List.replicate, List.cons_append, List.nil_append, Nat.reduceAdd, Nat.reduceSub, List.getElem?_cons_succ, List.getElem?_cons_zero, List.set_cons_zero, List.set_cons_succ, R.toS_ok, R.bind_ok, R.toS_ite, R.bind_ite, SR.go_nx, SR.go_rt, SR.go_bk, SR.go_ct, SR.go_ite, SR.lp_nx, SR.lp_rt, SR.lp_bk, SR.lp_ct, SR.lp_ite, fin_nx, fin_rt, fin_ite, W.cb_bl, if_true, if_false, Bool.false_eq_true, eq_int, ne_int, eq_bl, ne_bl, mx2, mn2, int0, notW, truW, fdiv_ok, mod_ok, mul_okl, add_int, neg_int, int_bl, int_int, listLF_fl, listF_fl, listF_tup, listLF_tup, Int.reduceLT, Int.reduceLE, Int.reduceNeg, decide_true, decide_false, h1, decide_false, Bool.false_and]
theorem end_den {s : Sto} {l nl sl : Nat} {p : PS} (h : PAt s l nl sl p) (hl : p.string.length ≤ 1000) : Gives r_Parser_end_of_string [] s l nl sl (endP p) := by
  have lt := h.lt.1
  have ho := h.ob
  have hs : ∀ x, (s.set l x)[l]? = some x := fun x => List.getElem?_set_self lt
  obtain ⟨a1, a2⟩ := h.fld { p with mode := 0 } rfl rfl
  have st := sl_to (a1.ss)
  have sf := sl_from (a1.ss)
  unfold Gives r_Parser_end_of_string endP
  refine ⟨_, _, _, ?_, a1, a2⟩
  simp only [pf] at ho st sf ⊢
  have it := fun s => in_titles (p.string.take 2) s
  have s64 := fun s => sl64 (keptP (p.string.drop 2)) s
  have tq : ∀ s, tupF [.fl (((keptP (p.string.drop 2)).take 64).map W.int)] s = .ok (.tup (((keptP (p.string.drop 2)).take 64).map W.int)) s := fun s => rfl
  by_cases hv : p.isTitle = true
  · simp only [hv] at ho st sf ⊢
    by_cases ht : isTtl p.string
    · have ht2 : decide (p.string.take 2 = [48, 59] ∨ p.string.take 2 = [50, 59]) = true := decide_eq_true ht
      rw [if_pos ⟨True.intro, ht⟩]
      have kl := kept_lc (l := l) (xs := p.string.drop 2) (m := slE slF (un (fldW 0 9) (vr 0)) (oxs (kk (.int 2))) oxn) (s := s.set l (.ins 0 [some (.int 0), some (.int p.missing), some (.int p.further), some (.int p.number), some (.int p.priv), some (.loc nl), some (.bl p.valid), some (.bl p.first), some (.bl true), some (.loc sl)]))
        (by rw [List.length_drop]; omega) (by simp only [bodyD, pad, sqS, ifS, orB, andB, notB, tb, bn, un, vr, kk, rtS, rnS, exS, orE, andE, chn, ifE, trB, passS, noS, setS, asgS, parS, axc, axn, flE, lsE, tupE, clE, mthE, mkE, lmE, forS, sqI, rg1, rg2, gSb, gFd, setFS, augFS, gNm, gTp, gsC, gsN, augS, augI, bkS, ctS, whS, slE, oxn, oxs, lpS, List.map_cons, List.map_nil, List.length_cons, List.length_nil, List.replicate, List.cons_append, List.nil_append, Nat.reduceAdd, Nat.reduceSub, List.getElem?_cons_succ, List.getElem?_cons_zero, List.set_cons_zero, List.set_cons_succ, R.toS_ok, R.bind_ok, R.toS_ite, R.bind_ite, SR.go_nx, SR.go_rt, SR.go_bk, SR.go_ct, SR.go_ite, SR.lp_nx, SR.lp_rt, SR.lp_bk, SR.lp_ct, SR.lp_ite, fin_nx, fin_rt, fin_ite, W.cb_bl, if_true, if_false, Bool.false_eq_true, eq_int, ne_int, eq_bl, ne_bl, mx2, mn2, int0, notW, truW, fdiv_ok, mod_ok, mul_okl, add_int, neg_int, int_bl, int_int, listLF_fl, listF_fl, listF_tup, listLF_tup, Int.reduceLT, Int.reduceLE, Int.reduceNeg, decide_true, decide_false, fldW, hs, sf])
      simp only [bodyD, pad, sqS, ifS, orB, andB, notB, tb, bn, un, vr, kk, rtS, rnS, exS, orE, andE, chn, ifE, trB, passS, noS, setS, asgS, parS, axc, axn, flE, lsE, tupE, clE, mthE, mkE, lmE, forS, sqI, rg1, rg2, gSb, gFd, setFS, augFS, gNm, gTp, gsC, gsN, augS, augI, bkS, ctS, whS, slE, oxn, oxs, lpS, List.map_cons, List.map_nil, List.length_cons, List.length_nil, List.replicate, List.cons_append, List.nil_append, Nat.reduceAdd, Nat.reduceSub, List.getElem?_cons_succ, List.getElem?_cons_zero, List.set_cons_zero, List.set_cons_succ, R.toS_ok, R.bind_ok, R.toS_ite, R.bind_ite, SR.go_nx, SR.go_rt, SR.go_bk, SR.go_ct, SR.go_ite, SR.lp_nx, SR.lp_rt, SR.lp_bk, SR.lp_ct, SR.lp_ite, fin_nx, fin_rt, fin_ite, W.cb_bl, if_true, if_false, Bool.false_eq_true, eq_int, ne_int, eq_bl, ne_bl, mx2, mn2, int0, notW, truW, fdiv_ok, mod_ok, mul_okl, add_int, neg_int, int_bl, int_int, listLF_fl, listF_fl, listF_tup, listLF_tup, Int.reduceLT, Int.reduceLE, Int.reduceNeg, decide_true, decide_false, ho, hs, fldW, Bool.not_true, st, it, ht2, kl, s64, tq, actW]
    · have ht2 : decide (p.string.take 2 = [48, 59] ∨ p.string.take 2 = [50, 59]) = false := decide_eq_false ht
      rw [if_neg fun z => ht z.2]
      simp only [bodyD, pad, sqS, ifS, orB, andB, notB, tb, bn, un, vr, kk, rtS, rnS, exS, orE, andE, chn, ifE, trB, passS, noS, setS, asgS, parS, axc, axn, flE, lsE, tupE, clE, mthE, mkE, lmE, forS, sqI, rg1, rg2, gSb, gFd, setFS, augFS, gNm, gTp, gsC, gsN, augS, augI, bkS, ctS, whS, slE, oxn, oxs, lpS, List.map_cons, List.map_nil, List.length_cons, List.length_nil, List.replicate, List.cons_append, List.nil_append, Nat.reduceAdd, Nat.reduceSub, List.getElem?_cons_succ, List.getElem?_cons_zero, List.set_cons_zero, List.set_cons_succ, R.toS_ok, R.bind_ok, R.toS_ite, R.bind_ite, SR.go_nx, SR.go_rt, SR.go_bk, SR.go_ct, SR.go_ite, SR.lp_nx, SR.lp_rt, SR.lp_bk, SR.lp_ct, SR.lp_ite, fin_nx, fin_rt, fin_ite, W.cb_bl, if_true, if_false, Bool.false_eq_true, eq_int, ne_int, eq_bl, ne_bl, mx2, mn2, int0, notW, truW, fdiv_ok, mod_ok, mul_okl, add_int, neg_int, int_bl, int_int, listLF_fl, listF_fl, listF_tup, listLF_tup, Int.reduceLT, Int.reduceLE, Int.reduceNeg, decide_true, decide_false, ho, hs, fldW, Bool.not_true, Bool.not_false, st, it, ht2]
  · have hv : p.isTitle = false := by simpa using hv
    simp only [hv] at ho st sf ⊢
    rw [if_neg fun z => Bool.noConfusion z.1]
    simp only [bodyD, pad, sqS, ifS, orB, andB, notB, tb, bn, un, vr, kk, rtS, rnS, exS, orE, andE, chn, ifE, trB, passS, noS, setS, asgS, parS, axc, axn, flE, lsE, tupE, clE, mthE, mkE, lmE, forS, sqI, rg1, rg2, gSb, gFd, setFS, augFS, gNm, gTp, gsC, gsN, augS, augI, bkS, ctS, whS, slE, oxn, oxs, lpS, List.map_cons, List.map_nil, List.length_cons, List.length_nil, List.replicate, List.cons_append, List.nil_append, Nat.reduceAdd, Nat.reduceSub, List.getElem?_cons_succ, List.getElem?_cons_zero, List.set_cons_zero, List.set_cons_succ, R.toS_ok, R.bind_ok, R.toS_ite, R.bind_ite, SR.go_nx, SR.go_rt, SR.go_bk, SR.go_ct, SR.go_ite, SR.lp_nx, SR.lp_rt, SR.lp_bk, SR.lp_ct, SR.lp_ite, fin_nx, fin_rt, fin_ite, W.cb_bl, if_true, if_false, Bool.false_eq_true, eq_int, ne_int, eq_bl, ne_bl, mx2, mn2, int0, notW, truW, fdiv_ok, mod_ok, mul_okl, add_int, neg_int, int_bl, int_int, listLF_fl, listF_fl, listF_tup, listLF_tup, Int.reduceLT, Int.reduceLE, Int.reduceNeg, decide_true, decide_false, ho, hs, fldW, Bool.not_false]

/-! Parser_step0 -/
def r_Parser_step0 : List W → Sto → R W := bodyD 2 (sqS (ifS (tb (bn inW (vr 1) (kk w_CANCEL))) (sqS (setFS 0 0 (vr 0) (kk (.int 0))) (rtS (flE axn))) passS) (sqS (ifS (tb (bn eqW (un (fldW 0 0) (vr 0)) (kk (.int 4)))) noS passS) (sqS (ifS (tb (bn eqW (un (fldW 0 0) (vr 0)) (kk (.int 5)))) noS passS) (sqS (ifS (tb (bn eqW (vr 1) (kk (.int 27)))) (sqS (setFS 0 0 (vr 0) (kk (.int 1))) (rtS (flE axn))) passS) (sqS (ifS (tb (bn ltW (vr 1) (kk (.int 32)))) (rtS (flE (axc (tupE (axc (kk (.str "control")) (axc (vr 1) axn))) axn))) passS) (sqS (ifS (tb (bn eqW (vr 1) (kk (.int 127)))) (rtS (flE axn)) passS) (sqS (ifS (orB (tb (bn geW (vr 1) (kk (.int 128)))) (tb (bn eqW (un (fldW 0 0) (vr 0)) (kk (.int 0))))) (sqS (setFS 0 0 (vr 0) (kk (.int 0))) (rtS (mthE 0 d_Parser_ground_step (vr 0) (axc (vr 1) axn)))) passS) (sqS (ifS (tb (bn eqW (un (fldW 0 0) (vr 0)) (kk (.int 1)))) (rtS (mthE 0 d_Parser_escape_step (vr 0) (axc (vr 1) axn))) passS) (sqS (ifS (tb (bn eqW (un (fldW 0 0) (vr 0)) (kk (.int 3)))) (rtS (mthE 0 d_Parser_sequence_step (vr 0) (axc (vr 1) axn))) passS) (sqS (ifS (tb (bn geW (vr 1) (kk (.int 48)))) (setFS 0 0 (vr 0) (kk (.int 0))) passS) (rtS (flE axn))))))))))))
abbrev d_Parser_step0 : List W → Sto → R W := r_Parser_step0
theorem further_keeps (p : PS) (b : Int) : (furtherP p b).1.numbers = p.numbers ∧ (furtherP p b).1.string = p.string := by
  unfold furtherP
  split
  · exact ⟨rfl, rfl⟩
  · split <;> exact ⟨rfl, rfl⟩
theorem ground_keeps (p : PS) (b : Int) : (groundP p b).1.numbers = p.numbers ∧ (groundP p b).1.string = p.string := by
  unfold groundP
  split
  · exact ⟨rfl, rfl⟩
  split
  · exact further_keeps p b
  split
  · exact ⟨rfl, rfl⟩
  split
  · exact ⟨rfl, rfl⟩
  split <;> exact ⟨rfl, rfl⟩
theorem ground_gives {s : Sto} {l nl sl : Nat} {p : PS} {b : Int} (h : PAt s l nl sl p) (hf : p.missing ≠ 0 → p.further = 1 ∨ p.further = 2 ∨ p.further = 3) : Gives r_Parser_ground_step [.int b] s l nl sl (groundP p b) := by
  obtain ⟨a1, a2⟩ := h.fld (groundP p b).1 (ground_keeps p b).1 (ground_keeps p b).2
  exact ⟨_, _, _, ground_den h.ob hf, a1, a2⟩
def step0P (p : PS) (b : Int) : PS × List Act :=
  if b = 24 ∨ b = 26 then ({ p with mode := 0 }, []) else if b = 27 then ({ p with mode := 1 }, []) else if b < 32 then (p, [.control b]) else if b = 127 then (p, [])
  else if 128 ≤ b ∨ p.mode = 0 then groundP { p with mode := 0 } b else if p.mode = 1 then escapeP p b else if p.mode = 3 then seqP p b else (if 48 ≤ b then { p with mode := 0 } else p, [])
theorem in_cancel (b : Int) (s : Sto) : inW (.int b) w_CANCEL s = .ok (.bl (decide (b = 24 ∨ b = 26))) s := by
  have e : ∀ k : Int, (k == b) = decide (b = k) := fun k => by
    by_cases h : b = k
    · subst h; simp
    · have h2 : ¬ k = b := fun z => h z.symm
      rw [decide_eq_false h]; simpa using h2
  simp [bodyD, pad, sqS, ifS, orB, andB, notB, tb, bn, un, addW, mulW, negW, notW, mulOk, int0, intW, vr, kk, rtS, rnS, exS, orE, andE, chn, ifE, trB, truW, lstOf, seqOf, lstK, passS, noS, setS, asgS, parS, axc, axn, flE, lsE, tupE, clE, mthE, mkE, isIns, fldW, setFS, augFS, setFd, gFd, gNm, gTp, gsC, gsN, augS, lenF, absF, intF, allF, anyF, sumF, maxF, minF, listF, listLF, tupF, isiW, tyOf, Ty.le, ixW, lmE, appF, extF, popF, flatW, veqW, inW, ninW, forS, sqI, lpS, forL, rg1, rg2, slE, slF, slLF, oxn, oxs, inT, getT, isnW, nonW, isbW, nibW, idxF, firstI, gSb, setI, ixN, bkS, ctS, whS, eq_int, ne_int, eq_bl, ne_bl, atI_l0, atI_l1, atI_l2, atI_l3, intsOf_map, blsOf_map, intsOf_mapf, blsOf_mapf, intsOf_mapc, blsOf_mapc, lstK]
  simp only [e]
structure PGood (p : PS) : Prop where
  fu : p.missing ≠ 0 → p.further = 1 ∨ p.further = 2 ∨ p.further = 3
  ne : p.numbers ≠ []
  ln : p.numbers.length ≤ 17
  st : p.string.length ≤ 256
theorem step0_den {s : Sto} {l nl sl : Nat} {p : PS} {b : Int} (h : PAt s l nl sl p) (g : PGood p) (h4 : p.mode ≠ 4) (h5 : p.mode ≠ 5) : Gives r_Parser_step0 [.int b] s l nl sl (step0P p b) := by
  have lt := h.lt.1
  have ho := h.ob
  have hs : ∀ x, (s.set l x)[l]? = some x := fun x => List.getElem?_set_self lt
  have isI : isIns 0 (.loc l) s = true := by simp [isIns, ho]
  have isJ : ∀ fs, isIns 0 (.loc l) (s.set l (.ins 0 fs)) = true := fun fs => by simp [isIns, hs]
  have ic := fun s => in_cancel b s
  have m4 : (p.mode == 4) = false := by simpa using h4
  have m5 : (p.mode == 5) = false := by simpa using h5
  unfold step0P
  by_cases c1 : b = 24 ∨ b = 26
  · rw [if_pos c1]
    obtain ⟨a1, a2⟩ := h.fld { p with mode := 0 } rfl rfl
    refine ⟨_, _, _, ?_, a1, a2⟩
    have c1 : decide (b = 24 ∨ b = 26) = true := decide_eq_true c1
    unfold r_Parser_step0
    simp only [pf] at ho ⊢
    simp only [bodyD, pad, sqS, ifS, orB, andB, notB, tb, bn, un, vr, kk, rtS, rnS, exS, orE, andE, chn, ifE, trB, passS, noS, setS, asgS, parS, axc, axn, flE, lsE, tupE, clE, mthE, mkE, lmE, forS, sqI, rg1, rg2, gSb, gFd, setFS, augFS, gNm, gTp, gsC, gsN, augS, augI, bkS, ctS, whS, slE, oxn, oxs, lpS, List.map_cons, List.map_nil, List.length_cons, List.length_nil, List.replicate, List.cons_append, List.nil_append, Nat.reduceAdd, Nat.reduceSub, List.getElem?_cons_succ, List.getElem?_cons_zero, List.set_cons_zero, List.set_cons_succ, R.toS_ok, R.bind_ok, R.toS_ite, R.bind_ite, SR.go_nx, SR.go_rt, SR.go_bk, SR.go_ct, SR.go_ite, SR.lp_nx, SR.lp_rt, SR.lp_bk, SR.lp_ct, SR.lp_ite, fin_nx, fin_rt, fin_ite, W.cb_bl, if_true, if_false, Bool.false_eq_true, eq_int, ne_int, eq_bl, ne_bl, mx2, mn2, int0, notW, truW, fdiv_ok, mod_ok, mul_okl, add_int, neg_int, int_bl, int_int, listLF_fl, listF_fl, listF_tup, listLF_tup, Int.reduceLT, Int.reduceLE, Int.reduceNeg, decide_true, decide_false, ic, c1, ho]
  rw [if_neg c1]
  have c1 : decide (b = 24 ∨ b = 26) = false := decide_eq_false c1
  by_cases c2 : b = 27
  · rw [if_pos c2]
    obtain ⟨a1, a2⟩ := h.fld { p with mode := 1 } rfl rfl
    refine ⟨_, _, _, ?_, a1, a2⟩
    have c2 : (b == 27) = true := by simpa using c2
    unfold r_Parser_step0
    simp only [pf] at ho ⊢
    simp only [bodyD, pad, sqS, ifS, orB, andB, notB, tb, bn, un, vr, kk, rtS, rnS, exS, orE, andE, chn, ifE, trB, passS, noS, setS, asgS, parS, axc, axn, flE, lsE, tupE, clE, mthE, mkE, lmE, forS, sqI, rg1, rg2, gSb, gFd, setFS, augFS, gNm, gTp, gsC, gsN, augS, augI, bkS, ctS, whS, slE, oxn, oxs, lpS, List.map_cons, List.map_nil, List.length_cons, List.length_nil, List.replicate, List.cons_append, List.nil_append, Nat.reduceAdd, Nat.reduceSub, List.getElem?_cons_succ, List.getElem?_cons_zero, List.set_cons_zero, List.set_cons_succ, R.toS_ok, R.bind_ok, R.toS_ite, R.bind_ite, SR.go_nx, SR.go_rt, SR.go_bk, SR.go_ct, SR.go_ite, SR.lp_nx, SR.lp_rt, SR.lp_bk, SR.lp_ct, SR.lp_ite, fin_nx, fin_rt, fin_ite, W.cb_bl, if_true, if_false, Bool.false_eq_true, eq_int, ne_int, eq_bl, ne_bl, mx2, mn2, int0, notW, truW, fdiv_ok, mod_ok, mul_okl, add_int, neg_int, int_bl, int_int, listLF_fl, listF_fl, listF_tup, listLF_tup, Int.reduceLT, Int.reduceLE, Int.reduceNeg, decide_true, decide_false, ic, c1, c2, m4, m5, fldW, ho]
  rw [if_neg c2]
  have c2 : (b == 27) = false := by simpa using c2
  by_cases c3 : b < 32
  · rw [if_pos c3]
    refine ⟨s, nl, sl, ?_, h, .refl ..⟩
    unfold r_Parser_step0
    simp only [pf] at ho ⊢
    simp only [bodyD, pad, sqS, ifS, orB, andB, notB, tb, bn, un, vr, kk, rtS, rnS, exS, orE, andE, chn, ifE, trB, passS, noS, setS, asgS, parS, axc, axn, flE, lsE, tupE, clE, mthE, mkE, lmE, forS, sqI, rg1, rg2, gSb, gFd, setFS, augFS, gNm, gTp, gsC, gsN, augS, augI, bkS, ctS, whS, slE, oxn, oxs, lpS, List.map_cons, List.map_nil, List.length_cons, List.length_nil, List.replicate, List.cons_append, List.nil_append, Nat.reduceAdd, Nat.reduceSub, List.getElem?_cons_succ, List.getElem?_cons_zero, List.set_cons_zero, List.set_cons_succ, R.toS_ok, R.bind_ok, R.toS_ite, R.bind_ite, SR.go_nx, SR.go_rt, SR.go_bk, SR.go_ct, SR.go_ite, SR.lp_nx, SR.lp_rt, SR.lp_bk, SR.lp_ct, SR.lp_ite, fin_nx, fin_rt, fin_ite, W.cb_bl, if_true, if_false, Bool.false_eq_true, eq_int, ne_int, eq_bl, ne_bl, mx2, mn2, int0, notW, truW, fdiv_ok, mod_ok, mul_okl, add_int, neg_int, int_bl, int_int, listLF_fl, listF_fl, listF_tup, listLF_tup, Int.reduceLT, Int.reduceLE, Int.reduceNeg, decide_true, decide_false, ic, c1, c2, c3, decide_true, m4, m5, fldW, ho, actW]
  rw [if_neg c3]
  by_cases c4 : b = 127
  · rw [if_pos c4]
    refine ⟨s, nl, sl, ?_, h, .refl ..⟩
    have c4 : (b == 127) = true := by simpa using c4
    unfold r_Parser_step0
    simp only [pf] at ho ⊢
    simp only [bodyD, pad, sqS, ifS, orB, andB, notB, tb, bn, un, vr, kk, rtS, rnS, exS, orE, andE, chn, ifE, trB, passS, noS, setS, asgS, parS, axc, axn, flE, lsE, tupE, clE, mthE, mkE, lmE, forS, sqI, rg1, rg2, gSb, gFd, setFS, augFS, gNm, gTp, gsC, gsN, augS, augI, bkS, ctS, whS, slE, oxn, oxs, lpS, List.map_cons, List.map_nil, List.length_cons, List.length_nil, List.replicate, List.cons_append, List.nil_append, Nat.reduceAdd, Nat.reduceSub, List.getElem?_cons_succ, List.getElem?_cons_zero, List.set_cons_zero, List.set_cons_succ, R.toS_ok, R.bind_ok, R.toS_ite, R.bind_ite, SR.go_nx, SR.go_rt, SR.go_bk, SR.go_ct, SR.go_ite, SR.lp_nx, SR.lp_rt, SR.lp_bk, SR.lp_ct, SR.lp_ite, fin_nx, fin_rt, fin_ite, W.cb_bl, if_true, if_false, Bool.false_eq_true, eq_int, ne_int, eq_bl, ne_bl, mx2, mn2, int0, notW, truW, fdiv_ok, mod_ok, mul_okl, add_int, neg_int, int_bl, int_int, listLF_fl, listF_fl, listF_tup, listLF_tup, Int.reduceLT, Int.reduceLE, Int.reduceNeg, decide_true, decide_false, ic, c1, c2, c3, c4, decide_false, m4, m5, fldW, ho]
  rw [if_neg c4]
  have c4 : (b == 127) = false := by simpa using c4
  by_cases c5 : 128 ≤ b ∨ p.mode = 0
  · rw [if_pos c5]
    obtain ⟨a1, a2⟩ := h.fld { p with mode := 0 } rfl rfl
    obtain ⟨s', n', m', e, b1, b2⟩ := ground_gives (b := b) a1 g.fu
    refine ⟨s', n', m', ?_, b1, a2.trans b2⟩
    unfold r_Parser_step0
    simp only [pf] at ho e
    by_cases c6 : 128 ≤ b
    · simp only [bodyD, pad, sqS, ifS, orB, andB, notB, tb, bn, un, vr, kk, rtS, rnS, exS, orE, andE, chn, ifE, trB, passS, noS, setS, asgS, parS, axc, axn, flE, lsE, tupE, clE, mthE, mkE, lmE, forS, sqI, rg1, rg2, gSb, gFd, setFS, augFS, gNm, gTp, gsC, gsN, augS, augI, bkS, ctS, whS, slE, oxn, oxs, lpS, List.map_cons, List.map_nil, List.length_cons, List.length_nil, List.replicate, List.cons_append, List.nil_append, Nat.reduceAdd, Nat.reduceSub, List.getElem?_cons_succ, List.getElem?_cons_zero, List.set_cons_zero, List.set_cons_succ, R.toS_ok, R.bind_ok, R.toS_ite, R.bind_ite, SR.go_nx, SR.go_rt, SR.go_bk, SR.go_ct, SR.go_ite, SR.lp_nx, SR.lp_rt, SR.lp_bk, SR.lp_ct, SR.lp_ite, fin_nx, fin_rt, fin_ite, W.cb_bl, if_true, if_false, Bool.false_eq_true, eq_int, ne_int, eq_bl, ne_bl, mx2, mn2, int0, notW, truW, fdiv_ok, mod_ok, mul_okl, add_int, neg_int, int_bl, int_int, listLF_fl, listF_fl, listF_tup, listLF_tup, Int.reduceLT, Int.reduceLE, Int.reduceNeg, decide_true, decide_false, ic, c1, c2, c3, c4, c6, decide_true, decide_false, m4, m5, fldW, ho, isJ, e]
    · have c7 : (p.mode == 0) = true := by simpa [c6] using c5
      simp only [bodyD, pad, sqS, ifS, orB, andB, notB, tb, bn, un, vr, kk, rtS, rnS, exS, orE, andE, chn, ifE, trB, passS, noS, setS, asgS, parS, axc, axn, flE, lsE, tupE, clE, mthE, mkE, lmE, forS, sqI, rg1, rg2, gSb, gFd, setFS, augFS, gNm, gTp, gsC, gsN, augS, augI, bkS, ctS, whS, slE, oxn, oxs, lpS, List.map_cons, List.map_nil, List.length_cons, List.length_nil, List.replicate, List.cons_append, List.nil_append, Nat.reduceAdd, Nat.reduceSub, List.getElem?_cons_succ, List.getElem?_cons_zero, List.set_cons_zero, List.set_cons_succ, R.toS_ok, R.bind_ok, R.toS_ite, R.bind_ite, SR.go_nx, SR.go_rt, SR.go_bk, SR.go_ct, SR.go_ite, SR.lp_nx, SR.lp_rt, SR.lp_bk, SR.lp_ct, SR.lp_ite, fin_nx, fin_rt, fin_ite, W.cb_bl, if_true, if_false, Bool.false_eq_true, eq_int, ne_int, eq_bl, ne_bl, mx2, mn2, int0, notW, truW, fdiv_ok, mod_ok, mul_okl, add_int, neg_int, int_bl, int_int, listLF_fl, listF_fl, listF_tup, listLF_tup, Int.reduceLT, Int.reduceLE, Int.reduceNeg, decide_true, decide_false, ic, c1, c2, c3, c4, c6, c7, decide_true, decide_false, m4, m5, fldW, ho, isJ, e]
  rw [if_neg c5]
  have c6 : ¬ 128 ≤ b := fun z => c5 (.inl z)
  have c7 : (p.mode == 0) = false := by simpa using fun z => c5 (.inr z)
  by_cases c8 : p.mode = 1
  · rw [if_pos c8]
    obtain ⟨s', n', m', e, b1, b2⟩ := escape_den (b := b) h
    refine ⟨s', n', m', ?_, b1, b2⟩
    have c8 : (p.mode == 1) = true := by simpa using c8
    unfold r_Parser_step0
    simp only [pf] at ho e
    simp only [bodyD, pad, sqS, ifS, orB, andB, notB, tb, bn, un, vr, kk, rtS, rnS, exS, orE, andE, chn, ifE, trB, passS, noS, setS, asgS, parS, axc, axn, flE, lsE, tupE, clE, mthE, mkE, lmE, forS, sqI, rg1, rg2, gSb, gFd, setFS, augFS, gNm, gTp, gsC, gsN, augS, augI, bkS, ctS, whS, slE, oxn, oxs, lpS, List.map_cons, List.map_nil, List.length_cons, List.length_nil, List.replicate, List.cons_append, List.nil_append, Nat.reduceAdd, Nat.reduceSub, List.getElem?_cons_succ, List.getElem?_cons_zero, List.set_cons_zero, List.set_cons_succ, R.toS_ok, R.bind_ok, R.toS_ite, R.bind_ite, SR.go_nx, SR.go_rt, SR.go_bk, SR.go_ct, SR.go_ite, SR.lp_nx, SR.lp_rt, SR.lp_bk, SR.lp_ct, SR.lp_ite, fin_nx, fin_rt, fin_ite, W.cb_bl, if_true, if_false, Bool.false_eq_true, eq_int, ne_int, eq_bl, ne_bl, mx2, mn2, int0, notW, truW, fdiv_ok, mod_ok, mul_okl, add_int, neg_int, int_bl, int_int, listLF_fl, listF_fl, listF_tup, listLF_tup, Int.reduceLT, Int.reduceLE, Int.reduceNeg, decide_true, decide_false, ic, c1, c2, c3, c4, c6, c7, c8, decide_true, decide_false, m4, m5, fldW, ho, isI, e]
  rw [if_neg c8]
  have c8 : (p.mode == 1) = false := by simpa using c8
  by_cases c9 : p.mode = 3
  · rw [if_pos c9]
    obtain ⟨s', n', m', e, b1, b2⟩ := seq_den (b := b) h g.ne g.ln
    refine ⟨s', n', m', ?_, b1, b2⟩
    have c9 : (p.mode == 3) = true := by simpa using c9
    unfold r_Parser_step0
    simp only [pf] at ho e
    simp only [bodyD, pad, sqS, ifS, orB, andB, notB, tb, bn, un, vr, kk, rtS, rnS, exS, orE, andE, chn, ifE, trB, passS, noS, setS, asgS, parS, axc, axn, flE, lsE, tupE, clE, mthE, mkE, lmE, forS, sqI, rg1, rg2, gSb, gFd, setFS, augFS, gNm, gTp, gsC, gsN, augS, augI, bkS, ctS, whS, slE, oxn, oxs, lpS, List.map_cons, List.map_nil, List.length_cons, List.length_nil, List.replicate, List.cons_append, List.nil_append, Nat.reduceAdd, Nat.reduceSub, List.getElem?_cons_succ, List.getElem?_cons_zero, List.set_cons_zero, List.set_cons_succ, R.toS_ok, R.bind_ok, R.toS_ite, R.bind_ite, SR.go_nx, SR.go_rt, SR.go_bk, SR.go_ct, SR.go_ite, SR.lp_nx, SR.lp_rt, SR.lp_bk, SR.lp_ct, SR.lp_ite, fin_nx, fin_rt, fin_ite, W.cb_bl, if_true, if_false, Bool.false_eq_true, eq_int, ne_int, eq_bl, ne_bl, mx2, mn2, int0, notW, truW, fdiv_ok, mod_ok, mul_okl, add_int, neg_int, int_bl, int_int, listLF_fl, listF_fl, listF_tup, listLF_tup, Int.reduceLT, Int.reduceLE, Int.reduceNeg, decide_true, decide_false, ic, c1, c2, c3, c4, c6, c7, c8, c9, decide_true, decide_false, m4, m5, fldW, ho, isI, e]
  rw [if_neg c9]
  have c9 : (p.mode == 3) = false := by simpa using c9
  by_cases c0 : 48 ≤ b
  · rw [if_pos c0]
    obtain ⟨a1, a2⟩ := h.fld { p with mode := 0 } rfl rfl
    refine ⟨_, _, _, ?_, a1, a2⟩
    unfold r_Parser_step0
    simp only [pf] at ho ⊢
    simp only [bodyD, pad, sqS, ifS, orB, andB, notB, tb, bn, un, vr, kk, rtS, rnS, exS, orE, andE, chn, ifE, trB, passS, noS, setS, asgS, parS, axc, axn, flE, lsE, tupE, clE, mthE, mkE, lmE, forS, sqI, rg1, rg2, gSb, gFd, setFS, augFS, gNm, gTp, gsC, gsN, augS, augI, bkS, ctS, whS, slE, oxn, oxs, lpS, List.map_cons, List.map_nil, List.length_cons, List.length_nil, List.replicate, List.cons_append, List.nil_append, Nat.reduceAdd, Nat.reduceSub, List.getElem?_cons_succ, List.getElem?_cons_zero, List.set_cons_zero, List.set_cons_succ, R.toS_ok, R.bind_ok, R.toS_ite, R.bind_ite, SR.go_nx, SR.go_rt, SR.go_bk, SR.go_ct, SR.go_ite, SR.lp_nx, SR.lp_rt, SR.lp_bk, SR.lp_ct, SR.lp_ite, fin_nx, fin_rt, fin_ite, W.cb_bl, if_true, if_false, Bool.false_eq_true, eq_int, ne_int, eq_bl, ne_bl, mx2, mn2, int0, notW, truW, fdiv_ok, mod_ok, mul_okl, add_int, neg_int, int_bl, int_int, listLF_fl, listF_fl, listF_tup, listLF_tup, Int.reduceLT, Int.reduceLE, Int.reduceNeg, decide_true, decide_false, ic, c1, c2, c3, c4, c6, c7, c8, c9, c0, decide_true, decide_false, m4, m5, fldW, ho]
  · rw [if_neg c0]
    refine ⟨s, nl, sl, ?_, h, .refl ..⟩
    unfold r_Parser_step0
    simp only [pf] at ho ⊢
    simp only [bodyD, pad, sqS, ifS, orB, andB, notB, tb, bn, un, vr, kk, rtS, rnS, exS, orE, andE, chn, ifE, trB, passS, noS, setS, asgS, parS, axc, axn, flE, lsE, tupE, clE, mthE, mkE, lmE, forS, sqI, rg1, rg2, gSb, gFd, setFS, augFS, gNm, gTp, gsC, gsN, augS, augI, bkS, ctS, whS, slE, oxn, oxs, lpS, List.map_cons, List.map_nil, List.length_cons, List.length_nil, List.replicate, List.cons_append, List.nil_append, Nat.reduceAdd, Nat.reduceSub, List.getElem?_cons_succ, List.getElem?_cons_zero, List.set_cons_zero, List.set_cons_succ, R.toS_ok, R.bind_ok, R.toS_ite, R.bind_ite, SR.go_nx, SR.go_rt, SR.go_bk, SR.go_ct, SR.go_ite, SR.lp_nx, SR.lp_rt, SR.lp_bk, SR.lp_ct, SR.lp_ite, fin_nx, fin_rt, fin_ite, W.cb_bl, if_true, if_false, Bool.false_eq_true, eq_int, ne_int, eq_bl, ne_bl, mx2, mn2, int0, notW, truW, fdiv_ok, mod_ok, mul_okl, add_int, neg_int, int_bl, int_int, listLF_fl, listF_fl, listF_tup, listLF_tup, Int.reduceLT, Int.reduceLE, Int.reduceNeg, decide_true, decide_false, ic, c1, c2, c3, c4, c6, c7, c8, c9, c0, decide_true, decide_false, m4, m5, fldW, ho]

/-! Parser_string_end_step -/
def r_Parser_string_end_step : List W → Sto → R W := bodyD 2 (sqS (ifS (tb (bn eqW (vr 1) (kk (.int 92)))) (rtS (mthE 0 d_Parser_end_of_string (vr 0) axn)) passS) (sqS (setFS 0 0 (vr 0) (kk (.int 1))) (rtS (ifE (tb (bn eqW (vr 1) (kk (.int 27)))) (flE axn) (mthE 0 d_Parser_step0 (vr 0) (axc (vr 1) axn))))))
abbrev d_Parser_string_end_step : List W → Sto → R W := r_Parser_string_end_step
def sendP (p : PS) (b : Int) : PS × List Act := if b = 92 then endP p else if b = 27 then ({ p with mode := 1 }, []) else step0P { p with mode := 1 } b
theorem send_den {s : Sto} {l nl sl : Nat} {p : PS} {b : Int} (h : PAt s l nl sl p) (g : PGood p) : Gives r_Parser_string_end_step [.int b] s l nl sl (sendP p b) := by
  have lt := h.lt.1
  have ho := h.ob
  have hs : ∀ x, (s.set l x)[l]? = some x := fun x => List.getElem?_set_self lt
  have isI : isIns 0 (.loc l) s = true := by simp [isIns, ho]
  have isJ : ∀ fs, isIns 0 (.loc l) (s.set l (.ins 0 fs)) = true := fun fs => by simp [isIns, hs]
  unfold sendP
  by_cases c1 : b = 92
  · rw [if_pos c1]
    obtain ⟨s', n', m', e, a1, a2⟩ := end_den h (by have := g.st; omega)
    refine ⟨s', n', m', ?_, a1, a2⟩
    have c1 : (b == 92) = true := by simpa using c1
    unfold r_Parser_string_end_step
    simp only [bodyD, pad, sqS, ifS, orB, andB, notB, tb, bn, un, vr, kk, rtS, rnS, exS, orE, andE, chn, ifE, trB, passS, noS, setS, asgS, parS, axc, axn, flE, lsE, tupE, clE, mthE, mkE, lmE, forS, sqI, rg1, rg2, gSb, gFd, setFS, augFS, gNm, gTp, gsC, gsN, augS, augI, bkS, ctS, whS, slE, oxn, oxs, lpS, List.map_cons, List.map_nil, List.length_cons, List.length_nil, List.replicate, List.cons_append, List.nil_append, Nat.reduceAdd, Nat.reduceSub, List.getElem?_cons_succ, List.getElem?_cons_zero, List.set_cons_zero, List.set_cons_succ, R.toS_ok, R.bind_ok, R.toS_ite, R.bind_ite, SR.go_nx, SR.go_rt, SR.go_bk, SR.go_ct, SR.go_ite, SR.lp_nx, SR.lp_rt, SR.lp_bk, SR.lp_ct, SR.lp_ite, fin_nx, fin_rt, fin_ite, W.cb_bl, if_true, if_false, Bool.false_eq_true, eq_int, ne_int, eq_bl, ne_bl, mx2, mn2, int0, notW, truW, fdiv_ok, mod_ok, mul_okl, add_int, neg_int, int_bl, int_int, listLF_fl, listF_fl, listF_tup, listLF_tup, Int.reduceLT, Int.reduceLE, Int.reduceNeg, decide_true, decide_false, c1, isI, e]
  rw [if_neg c1]
  have c1 : (b == 92) = false := by simpa using c1
  obtain ⟨a1, a2⟩ := h.fld { p with mode := 1 } rfl rfl
  by_cases c2 : b = 27
  · rw [if_pos c2]
    refine ⟨_, _, _, ?_, a1, a2⟩
    have c2 : (b == 27) = true := by simpa using c2
    unfold r_Parser_string_end_step
    simp only [pf] at ho ⊢
    simp only [bodyD, pad, sqS, ifS, orB, andB, notB, tb, bn, un, vr, kk, rtS, rnS, exS, orE, andE, chn, ifE, trB, passS, noS, setS, asgS, parS, axc, axn, flE, lsE, tupE, clE, mthE, mkE, lmE, forS, sqI, rg1, rg2, gSb, gFd, setFS, augFS, gNm, gTp, gsC, gsN, augS, augI, bkS, ctS, whS, slE, oxn, oxs, lpS, List.map_cons, List.map_nil, List.length_cons, List.length_nil, List.replicate, List.cons_append, List.nil_append, Nat.reduceAdd, Nat.reduceSub, List.getElem?_cons_succ, List.getElem?_cons_zero, List.set_cons_zero, List.set_cons_succ, R.toS_ok, R.bind_ok, R.toS_ite, R.bind_ite, SR.go_nx, SR.go_rt, SR.go_bk, SR.go_ct, SR.go_ite, SR.lp_nx, SR.lp_rt, SR.lp_bk, SR.lp_ct, SR.lp_ite, fin_nx, fin_rt, fin_ite, W.cb_bl, if_true, if_false, Bool.false_eq_true, eq_int, ne_int, eq_bl, ne_bl, mx2, mn2, int0, notW, truW, fdiv_ok, mod_ok, mul_okl, add_int, neg_int, int_bl, int_int, listLF_fl, listF_fl, listF_tup, listLF_tup, Int.reduceLT, Int.reduceLE, Int.reduceNeg, decide_true, decide_false, c1, c2, ho]
  · rw [if_neg c2]
    obtain ⟨s', n', m', e, b1, b2⟩ := step0_den (b := b) a1 ⟨g.fu, g.ne, g.ln, g.st⟩ (by show (1 : Int) ≠ 4; decide) (by show (1 : Int) ≠ 5; decide)
    refine ⟨s', n', m', ?_, b1, a2.trans b2⟩
    have c2 : (b == 27) = false := by simpa using c2
    unfold r_Parser_string_end_step
    simp only [pf] at ho e
    simp only [bodyD, pad, sqS, ifS, orB, andB, notB, tb, bn, un, vr, kk, rtS, rnS, exS, orE, andE, chn, ifE, trB, passS, noS, setS, asgS, parS, axc, axn, flE, lsE, tupE, clE, mthE, mkE, lmE, forS, sqI, rg1, rg2, gSb, gFd, setFS, augFS, gNm, gTp, gsC, gsN, augS, augI, bkS, ctS, whS, slE, oxn, oxs, lpS, List.map_cons, List.map_nil, List.length_cons, List.length_nil, List.replicate, List.cons_append, List.nil_append, Nat.reduceAdd, Nat.reduceSub, List.getElem?_cons_succ, List.getElem?_cons_zero, List.set_cons_zero, List.set_cons_succ, R.toS_ok, R.bind_ok, R.toS_ite, R.bind_ite, SR.go_nx, SR.go_rt, SR.go_bk, SR.go_ct, SR.go_ite, SR.lp_nx, SR.lp_rt, SR.lp_bk, SR.lp_ct, SR.lp_ite, fin_nx, fin_rt, fin_ite, W.cb_bl, if_true, if_false, Bool.false_eq_true, eq_int, ne_int, eq_bl, ne_bl, mx2, mn2, int0, notW, truW, fdiv_ok, mod_ok, mul_okl, add_int, neg_int, int_bl, int_int, listLF_fl, listF_fl, listF_tup, listLF_tup, Int.reduceLT, Int.reduceLE, Int.reduceNeg, decide_true, decide_false, c1, c2, ho, isJ, e]

/-! Parser_string_step -/
def r_Parser_string_step : List W → Sto → R W := bodyD 2 (sqS (ifS (tb (bn eqW (vr 1) (kk (.int 7)))) (rtS (mthE 0 d_Parser_end_of_string (vr 0) axn)) passS) (sqS (ifS (tb (bn eqW (vr 1) (kk (.int 27)))) (setFS 0 0 (vr 0) (kk (.int 5))) (ifS (tb (bn ltW (clE lenF (axc (un (fldW 0 9) (vr 0)) axn)) (kk (.int 256)))) (exS (lmE appF (un (fldW 0 9) (vr 0)) (axc (vr 1) axn))) passS)) (rtS (flE axn))))
abbrev d_Parser_string_step : List W → Sto → R W := r_Parser_string_step
def strP (p : PS) (b : Int) : PS × List Act :=
  if b = 7 then endP p else if b = 27 then ({ p with mode := 5 }, []) else (if p.string.length < 256 then { p with string := p.string ++ [b] } else p, [])
theorem set_self2 {s : Sto} {l : Nat} {x : O} (h : s[l]? = some x) (i : Nat) (y : O) (hi : l ≠ i) : (s.set i y).set l x = s.set i y := set_same (by rw [List.getElem?_set_ne (Ne.symm hi)]; exact h)
theorem str_den {s : Sto} {l nl sl : Nat} {p : PS} {b : Int} (h : PAt s l nl sl p) (hl : p.string.length ≤ 1000) : Gives r_Parser_string_step [.int b] s l nl sl (strP p b) := by
  have lt := h.lt.1
  have ho := h.ob
  have hs : ∀ x, (s.set l x)[l]? = some x := fun x => List.getElem?_set_self lt
  have isI : isIns 0 (.loc l) s = true := by simp [isIns, ho]
  have lks : lstK s (.loc sl) = some (p.string.map W.int) := by simp [lstK, lstOf, h.ss]
  have hln : lenF [.loc sl] s = .ok (.int (p.string.length : Int)) s := by simp [lenF, seqOf, lstOf, h.ss]
  have ap := app_at (w := .int b) h.ss (by rw [List.length_map]; omega)
  unfold strP
  by_cases h1 : b = 7
  · rw [if_pos h1]
    obtain ⟨s', n', m', e, a1, a2⟩ := end_den h hl
    refine ⟨s', n', m', ?_, a1, a2⟩
    subst h1
    have b7 : ((7 : Int) == 7) = true := rfl
    unfold r_Parser_string_step
    simp only [bodyD, pad, sqS, ifS, orB, andB, notB, tb, bn, un, vr, kk, rtS, rnS, exS, orE, andE, chn, ifE, trB, passS, noS, setS, asgS, parS, axc, axn, flE, lsE, tupE, clE, mthE, mkE, lmE, forS, sqI, rg1, rg2, gSb, gFd, setFS, augFS, gNm, gTp, gsC, gsN, augS, augI, bkS, ctS, whS, slE, oxn, oxs, lpS, List.map_cons, List.map_nil, List.length_cons, List.length_nil, List.replicate, List.cons_append, List.nil_append, Nat.reduceAdd, Nat.reduceSub, List.getElem?_cons_succ, List.getElem?_cons_zero, List.set_cons_zero, List.set_cons_succ, R.toS_ok, R.bind_ok, R.toS_ite, R.bind_ite, SR.go_nx, SR.go_rt, SR.go_bk, SR.go_ct, SR.go_ite, SR.lp_nx, SR.lp_rt, SR.lp_bk, SR.lp_ct, SR.lp_ite, fin_nx, fin_rt, fin_ite, W.cb_bl, if_true, if_false, Bool.false_eq_true, eq_int, ne_int, eq_bl, ne_bl, mx2, mn2, int0, notW, truW, fdiv_ok, mod_ok, mul_okl, add_int, neg_int, int_bl, int_int, listLF_fl, listF_fl, listF_tup, listLF_tup, Int.reduceLT, Int.reduceLE, Int.reduceNeg, decide_true, decide_false, b7, isI, e]
  rw [if_neg h1]
  have e1 : (b == 7) = false := by simpa using h1
  by_cases h2 : b = 27
  · rw [if_pos h2]
    obtain ⟨a1, a2⟩ := h.fld { p with mode := 5 } rfl rfl
    refine ⟨_, _, _, ?_, a1, a2⟩
    subst h2
    have b27 : ((27 : Int) == 27) = true := rfl
    unfold r_Parser_string_step
    simp only [pf] at ho ⊢
    simp only [bodyD, pad, sqS, ifS, orB, andB, notB, tb, bn, un, vr, kk, rtS, rnS, exS, orE, andE, chn, ifE, trB, passS, noS, setS, asgS, parS, axc, axn, flE, lsE, tupE, clE, mthE, mkE, lmE, forS, sqI, rg1, rg2, gSb, gFd, setFS, augFS, gNm, gTp, gsC, gsN, augS, augI, bkS, ctS, whS, slE, oxn, oxs, lpS, List.map_cons, List.map_nil, List.length_cons, List.length_nil, List.replicate, List.cons_append, List.nil_append, Nat.reduceAdd, Nat.reduceSub, List.getElem?_cons_succ, List.getElem?_cons_zero, List.set_cons_zero, List.set_cons_succ, R.toS_ok, R.bind_ok, R.toS_ite, R.bind_ite, SR.go_nx, SR.go_rt, SR.go_bk, SR.go_ct, SR.go_ite, SR.lp_nx, SR.lp_rt, SR.lp_bk, SR.lp_ct, SR.lp_ite, fin_nx, fin_rt, fin_ite, W.cb_bl, if_true, if_false, Bool.false_eq_true, eq_int, ne_int, eq_bl, ne_bl, mx2, mn2, int0, notW, truW, fdiv_ok, mod_ok, mul_okl, add_int, neg_int, int_bl, int_int, listLF_fl, listF_fl, listF_tup, listLF_tup, Int.reduceLT, Int.reduceLE, Int.reduceNeg, decide_true, decide_false, e1, b27, ho]
  rw [if_neg h2]
  have e2 : (b == 27) = false := by simpa using h2
  by_cases h3 : p.string.length < 256
  · rw [if_pos h3]
    obtain ⟨a1, a2⟩ := h.setS { p with string := p.string ++ [b] } rfl
    have hss := set_self2 ho sl (.lst ((p.string ++ [b]).map W.int)) h.n2
    rw [show (pf { p with string := p.string ++ [b] } nl sl) = pf p nl sl from rfl, hss] at a1 a2
    refine ⟨_, _, _, ?_, a1, a2⟩
    have h4 : decide ((p.string.length : Int) < 256) = true := decide_eq_true (by omega)
    unfold r_Parser_string_step
    simp only [pf] at ho ⊢
    simp only [bodyD, pad, sqS, ifS, orB, andB, notB, tb, bn, un, vr, kk, rtS, rnS, exS, orE, andE, chn, ifE, trB, passS, noS, setS, asgS, parS, axc, axn, flE, lsE, tupE, clE, mthE, mkE, lmE, forS, sqI, rg1, rg2, gSb, gFd, setFS, augFS, gNm, gTp, gsC, gsN, augS, augI, bkS, ctS, whS, slE, oxn, oxs, lpS, List.map_cons, List.map_nil, List.length_cons, List.length_nil, List.replicate, List.cons_append, List.nil_append, Nat.reduceAdd, Nat.reduceSub, List.getElem?_cons_succ, List.getElem?_cons_zero, List.set_cons_zero, List.set_cons_succ, R.toS_ok, R.bind_ok, R.toS_ite, R.bind_ite, SR.go_nx, SR.go_rt, SR.go_bk, SR.go_ct, SR.go_ite, SR.lp_nx, SR.lp_rt, SR.lp_bk, SR.lp_ct, SR.lp_ite, fin_nx, fin_rt, fin_ite, W.cb_bl, if_true, if_false, Bool.false_eq_true, eq_int, ne_int, eq_bl, ne_bl, mx2, mn2, int0, notW, truW, fdiv_ok, mod_ok, mul_okl, add_int, neg_int, int_bl, int_int, listLF_fl, listF_fl, listF_tup, listLF_tup, Int.reduceLT, Int.reduceLE, Int.reduceNeg, decide_true, decide_false, e1, e2, fldW, ho, hln, h4, lks, ap, List.map_append]
  · rw [if_neg h3]
    refine ⟨s, nl, sl, ?_, h, .refl ..⟩
    have h4 : decide ((p.string.length : Int) < 256) = false := decide_eq_false (by omega)
    unfold r_Parser_string_step
    simp only [pf] at ho ⊢
    simp only [bodyD, pad, sqS, ifS, orB, andB, notB, tb, bn, un, vr, kk, rtS, rnS, exS, orE, andE, chn, ifE, trB, passS, noS, setS, asgS, parS, axc, axn, flE, lsE, tupE, clE, mthE, mkE, lmE, forS, sqI, rg1, rg2, gSb, gFd, setFS, augFS, gNm, gTp, gsC, gsN, augS, augI, bkS, ctS, whS, slE, oxn, oxs, lpS, List.map_cons, List.map_nil, List.length_cons, List.length_nil, List.replicate, List.cons_append, List.nil_append, Nat.reduceAdd, Nat.reduceSub, List.getElem?_cons_succ, List.getElem?_cons_zero, List.set_cons_zero, List.set_cons_succ, R.toS_ok, R.bind_ok, R.toS_ite, R.bind_ite, SR.go_nx, SR.go_rt, SR.go_bk, SR.go_ct, SR.go_ite, SR.lp_nx, SR.lp_rt, SR.lp_bk, SR.lp_ct, SR.lp_ite, fin_nx, fin_rt, fin_ite, W.cb_bl, if_true, if_false, Bool.false_eq_true, eq_int, ne_int, eq_bl, ne_bl, mx2, mn2, int0, notW, truW, fdiv_ok, mod_ok, mul_okl, add_int, neg_int, int_bl, int_int, listLF_fl, listF_fl, listF_tup, listLF_tup, Int.reduceLT, Int.reduceLE, Int.reduceNeg, decide_true, decide_false, e1, e2, fldW, ho, hln, h4]

/-! Parser_step -/
def r_Parser_step : List W → Sto → R W := bodyD 2 (sqS (ifS (tb (bn inW (vr 1) (kk w_CANCEL))) (sqS (setFS 0 0 (vr 0) (kk (.int 0))) (rtS (flE axn))) passS) (sqS (ifS (tb (bn eqW (un (fldW 0 0) (vr 0)) (kk (.int 4)))) (rtS (mthE 0 d_Parser_string_step (vr 0) (axc (vr 1) axn))) passS) (sqS (ifS (tb (bn eqW (un (fldW 0 0) (vr 0)) (kk (.int 5)))) (rtS (mthE 0 d_Parser_string_end_step (vr 0) (axc (vr 1) axn))) passS) (sqS (ifS (tb (bn eqW (vr 1) (kk (.int 27)))) (sqS (setFS 0 0 (vr 0) (kk (.int 1))) (rtS (flE axn))) passS) (sqS (ifS (tb (bn ltW (vr 1) (kk (.int 32)))) (rtS (flE (axc (tupE (axc (kk (.str "control")) (axc (vr 1) axn))) axn))) passS) (sqS (ifS (tb (bn eqW (vr 1) (kk (.int 127)))) (rtS (flE axn)) passS) (sqS (ifS (orB (tb (bn geW (vr 1) (kk (.int 128)))) (tb (bn eqW (un (fldW 0 0) (vr 0)) (kk (.int 0))))) (sqS (setFS 0 0 (vr 0) (kk (.int 0))) (rtS (mthE 0 d_Parser_ground_step (vr 0) (axc (vr 1) axn)))) passS) (sqS (ifS (tb (bn eqW (un (fldW 0 0) (vr 0)) (kk (.int 1)))) (rtS (mthE 0 d_Parser_escape_step (vr 0) (axc (vr 1) axn))) passS) (sqS (ifS (tb (bn eqW (un (fldW 0 0) (vr 0)) (kk (.int 3)))) (rtS (mthE 0 d_Parser_sequence_step (vr 0) (axc (vr 1) axn))) passS) (sqS (ifS (tb (bn geW (vr 1) (kk (.int 48)))) (setFS 0 0 (vr 0) (kk (.int 0))) passS) (rtS (flE axn))))))))))))
abbrev d_Parser_step : List W → Sto → R W := r_Parser_step
def stepP (p : PS) (b : Int) : PS × List Act :=
  if b = 24 ∨ b = 26 then ({ p with mode := 0 }, []) else if p.mode = 4 then strP p b else if p.mode = 5 then sendP p b else step0P p b
theorem step_den {s : Sto} {l nl sl : Nat} {p : PS} {b : Int} (h : PAt s l nl sl p) (g : PGood p) : Gives r_Parser_step [.int b] s l nl sl (stepP p b) := by
  have lt := h.lt.1
  have ho := h.ob
  have hs : ∀ x, (s.set l x)[l]? = some x := fun x => List.getElem?_set_self lt
  have isI : isIns 0 (.loc l) s = true := by simp [isIns, ho]
  have ic := fun s => in_cancel b s
  unfold stepP
  by_cases c1 : b = 24 ∨ b = 26
  · rw [if_pos c1]
    obtain ⟨a1, a2⟩ := h.fld { p with mode := 0 } rfl rfl
    refine ⟨_, _, _, ?_, a1, a2⟩
    have c1 : decide (b = 24 ∨ b = 26) = true := decide_eq_true c1
    unfold r_Parser_step
    simp only [pf] at ho ⊢
    simp only [bodyD, pad, sqS, ifS, orB, andB, notB, tb, bn, un, vr, kk, rtS, rnS, exS, orE, andE, chn, ifE, trB, passS, noS, setS, asgS, parS, axc, axn, flE, lsE, tupE, clE, mthE, mkE, lmE, forS, sqI, rg1, rg2, gSb, gFd, setFS, augFS, gNm, gTp, gsC, gsN, augS, augI, bkS, ctS, whS, slE, oxn, oxs, lpS, List.map_cons, List.map_nil, List.length_cons, List.length_nil, List.replicate, List.cons_append, List.nil_append, Nat.reduceAdd, Nat.reduceSub, List.getElem?_cons_succ, List.getElem?_cons_zero, List.set_cons_zero, List.set_cons_succ, R.toS_ok, R.bind_ok, R.toS_ite, R.bind_ite, SR.go_nx, SR.go_rt, SR.go_bk, SR.go_ct, SR.go_ite, SR.lp_nx, SR.lp_rt, SR.lp_bk, SR.lp_ct, SR.lp_ite, fin_nx, fin_rt, fin_ite, W.cb_bl, if_true, if_false, Bool.false_eq_true, eq_int, ne_int, eq_bl, ne_bl, mx2, mn2, int0, notW, truW, fdiv_ok, mod_ok, mul_okl, add_int, neg_int, int_bl, int_int, listLF_fl, listF_fl, listF_tup, listLF_tup, Int.reduceLT, Int.reduceLE, Int.reduceNeg, decide_true, decide_false, ic, c1, ho]
  rw [if_neg c1]
  have c1 : decide (b = 24 ∨ b = 26) = false := decide_eq_false c1
  by_cases c4 : p.mode = 4
  · rw [if_pos c4]
    obtain ⟨s', n', m', e, a1, a2⟩ := str_den (b := b) h (by have := g.st; omega)
    refine ⟨s', n', m', ?_, a1, a2⟩
    have c4 : (p.mode == 4) = true := by simpa using c4
    unfold r_Parser_step
    simp only [pf] at ho
    simp only [bodyD, pad, sqS, ifS, orB, andB, notB, tb, bn, un, vr, kk, rtS, rnS, exS, orE, andE, chn, ifE, trB, passS, noS, setS, asgS, parS, axc, axn, flE, lsE, tupE, clE, mthE, mkE, lmE, forS, sqI, rg1, rg2, gSb, gFd, setFS, augFS, gNm, gTp, gsC, gsN, augS, augI, bkS, ctS, whS, slE, oxn, oxs, lpS, List.map_cons, List.map_nil, List.length_cons, List.length_nil, List.replicate, List.cons_append, List.nil_append, Nat.reduceAdd, Nat.reduceSub, List.getElem?_cons_succ, List.getElem?_cons_zero, List.set_cons_zero, List.set_cons_succ, R.toS_ok, R.bind_ok, R.toS_ite, R.bind_ite, SR.go_nx, SR.go_rt, SR.go_bk, SR.go_ct, SR.go_ite, SR.lp_nx, SR.lp_rt, SR.lp_bk, SR.lp_ct, SR.lp_ite, fin_nx, fin_rt, fin_ite, W.cb_bl, if_true, if_false, Bool.false_eq_true, eq_int, ne_int, eq_bl, ne_bl, mx2, mn2, int0, notW, truW, fdiv_ok, mod_ok, mul_okl, add_int, neg_int, int_bl, int_int, listLF_fl, listF_fl, listF_tup, listLF_tup, Int.reduceLT, Int.reduceLE, Int.reduceNeg, decide_true, decide_false, ic, c1, fldW, ho, c4, isI, e]
  rw [if_neg c4]
  by_cases c5 : p.mode = 5
  · rw [if_pos c5]
    obtain ⟨s', n', m', e, a1, a2⟩ := send_den (b := b) h g
    refine ⟨s', n', m', ?_, a1, a2⟩
    have m4 : (p.mode == 4) = false := by simpa using c4
    have m5 : (p.mode == 5) = true := by simpa using c5
    unfold r_Parser_step
    simp only [pf] at ho
    simp only [bodyD, pad, sqS, ifS, orB, andB, notB, tb, bn, un, vr, kk, rtS, rnS, exS, orE, andE, chn, ifE, trB, passS, noS, setS, asgS, parS, axc, axn, flE, lsE, tupE, clE, mthE, mkE, lmE, forS, sqI, rg1, rg2, gSb, gFd, setFS, augFS, gNm, gTp, gsC, gsN, augS, augI, bkS, ctS, whS, slE, oxn, oxs, lpS, List.map_cons, List.map_nil, List.length_cons, List.length_nil, List.replicate, List.cons_append, List.nil_append, Nat.reduceAdd, Nat.reduceSub, List.getElem?_cons_succ, List.getElem?_cons_zero, List.set_cons_zero, List.set_cons_succ, R.toS_ok, R.bind_ok, R.toS_ite, R.bind_ite, SR.go_nx, SR.go_rt, SR.go_bk, SR.go_ct, SR.go_ite, SR.lp_nx, SR.lp_rt, SR.lp_bk, SR.lp_ct, SR.lp_ite, fin_nx, fin_rt, fin_ite, W.cb_bl, if_true, if_false, Bool.false_eq_true, eq_int, ne_int, eq_bl, ne_bl, mx2, mn2, int0, notW, truW, fdiv_ok, mod_ok, mul_okl, add_int, neg_int, int_bl, int_int, listLF_fl, listF_fl, listF_tup, listLF_tup, Int.reduceLT, Int.reduceLE, Int.reduceNeg, decide_true, decide_false, ic, c1, fldW, ho, m4, m5, isI, e]
  · rw [if_neg c5]
    obtain ⟨s', n', m', e, a1, a2⟩ := step0_den (b := b) h g c4 c5
    refine ⟨s', n', m', ?_, a1, a2⟩
    rw [← e]
    have m4 : (p.mode == 4) = false := by simpa using c4
    have m5 : (p.mode == 5) = false := by simpa using c5
    unfold r_Parser_step r_Parser_step0
    simp only [pf] at ho
    simp only [bodyD, pad, sqS, ifS, orB, andB, notB, tb, bn, un, vr, kk, rtS, rnS, exS, orE, andE, chn, ifE, trB, passS, noS, setS, asgS, parS, axc, axn, flE, lsE, tupE, clE, mthE, mkE, lmE, forS, sqI, rg1, rg2, gSb, gFd, setFS, augFS, gNm, gTp, gsC, gsN, augS, augI, bkS, ctS, whS, slE, oxn, oxs, lpS, List.map_cons, List.map_nil, List.length_cons, List.length_nil, List.replicate, List.cons_append, List.nil_append, Nat.reduceAdd, Nat.reduceSub, List.getElem?_cons_succ, List.getElem?_cons_zero, List.set_cons_zero, List.set_cons_succ, R.toS_ok, R.bind_ok, R.toS_ite, R.bind_ite, SR.go_nx, SR.go_rt, SR.go_bk, SR.go_ct, SR.go_ite, SR.lp_nx, SR.lp_rt, SR.lp_bk, SR.lp_ct, SR.lp_ite, fin_nx, fin_rt, fin_ite, W.cb_bl, if_true, if_false, Bool.false_eq_true, eq_int, ne_int, eq_bl, ne_bl, mx2, mn2, int0, notW, truW, fdiv_ok, mod_ok, mul_okl, add_int, neg_int, int_bl, int_int, listLF_fl, listF_fl, listF_tup, listLF_tup, Int.reduceLT, Int.reduceLE, Int.reduceNeg, decide_true, decide_false, ic, c1, fldW, ho, m4, m5]

def b_Parser_take_0 : Sx := (sqS (ifS (andB (tb (bn gtW (un (fldW 0 1) (vr 0)) (kk (.int 0)))) (notB (tb (chn leW leW (kk (.int 128)) (vr 3) (kk (.int 191)))))) (sqS (setFS 0 1 (vr 0) (kk (.int 0))) (exS (lmE appF (vr 2) (axc (tupE (axc (kk (.str "print")) (axc (kk (.int 65533)) axn))) axn)))) passS) (exS (lmE extF (vr 2) (axc (mthE 0 d_Parser_step (vr 0) (axc (vr 3) axn)) axn))))
/-! Parser_take -/
def r_Parser_take : List W → Sto → R W := bodyD 4 (sqS (setS 2 (lsE axn)) (sqS (forS (sqI (vr 1)) (gNm 3) b_Parser_take_0) (rtS (vr 2))))
abbrev d_Parser_take : List W → Sto → R W := r_Parser_take
theorem PGood.md {p : PS} (g : PGood p) (m : Int) : PGood { p with mode := m } := ⟨g.fu, g.ne, g.ln, g.st⟩
theorem good_further {p : PS} (g : PGood p) (b : Int) : PGood (furtherP p b).1 := by
  have k := further_keeps p b
  refine ⟨?_, by rw [k.1]; exact g.ne, by rw [k.1]; exact g.ln, by rw [k.2]; exact g.st⟩
  unfold furtherP
  split
  · exact g.fu
  · rename_i h
    split <;> exact fun _ => g.fu h
theorem good_ground {p : PS} (g : PGood p) (b : Int) : PGood (groundP p b).1 := by
  have k := ground_keeps p b
  refine ⟨?_, by rw [k.1]; exact g.ne, by rw [k.1]; exact g.ln, by rw [k.2]; exact g.st⟩
  unfold groundP
  split
  · exact g.fu
  split
  · exact (good_further g b).fu
  split
  · exact g.fu
  split
  · exact fun _ => .inl rfl
  split
  · exact fun _ => .inr (.inl rfl)
  · exact fun _ => .inr (.inr rfl)
theorem good_escape {p : PS} (g : PGood p) (b : Int) : PGood (escapeP p b).1 := by
  unfold escapeP
  split
  · exact ⟨g.fu, by simp, by simp, g.st⟩
  split
  · exact ⟨g.fu, g.ne, g.ln, by simp⟩
  split <;> exact g.md _
theorem good_seq {p : PS} (g : PGood p) (b : Int) : PGood (seqP p b).1 := by
  have hl := g.ln
  unfold seqP
  split
  · exact g.md _
  split
  · exact ⟨g.fu, fun e => g.ne (List.eq_nil_of_length_eq_zero (by have := congrArg List.length e; simpa using this)), by simpa using g.ln, g.st⟩
  split
  · split
    · rename_i h
      exact ⟨g.fu, by simp, by simp; omega, g.st⟩
    · exact ⟨g.fu, g.ne, g.ln, g.st⟩
  split <;> exact ⟨g.fu, g.ne, g.ln, g.st⟩
theorem good_step0 {p : PS} (g : PGood p) (b : Int) : PGood (step0P p b).1 := by
  unfold step0P
  split
  · exact g.md _
  split
  · exact g.md _
  split
  · exact g
  split
  · exact g
  split
  · exact good_ground (g.md 0) b
  split
  · exact good_escape g b
  split
  · exact good_seq g b
  show PGood (if 48 ≤ b then { p with mode := 0 } else p)
  split
  · exact g.md _
  · exact g
theorem good_step {p : PS} (g : PGood p) (b : Int) : PGood (stepP p b).1 := by
  unfold stepP
  split
  · exact g.md _
  split
  · unfold strP
    split
    · exact g.md _
    split
    · exact g.md _
    show PGood (if p.string.length < 256 then { p with string := p.string ++ [b] } else p)
    split
    · exact ⟨g.fu, g.ne, g.ln, by simp; omega⟩
    · exact g
  split
  · unfold sendP
    split
    · exact g.md _
    split
    · exact g.md _
    · exact good_step0 (g.md 1) b
  · exact good_step0 g b
/-- a character that is cut off -/
def brokenP (p : PS) (b : Int) : Bool := decide (0 < p.missing) && !(decide (128 ≤ b) && decide (b ≤ 191))
def takeP : PS → List Int → PS × List Act
  | p, [] => (p, [])
  | p, b :: bs =>
    let q := if brokenP p b = true then { p with missing := 0 } else p
    let r := takeP (stepP q b).1 bs
    (r.1, (if brokenP p b = true then [.print 65533] else []) ++ (stepP q b).2 ++ r.2)
theorem ground_len (p : PS) (b : Int) : (groundP p b).2.length ≤ 1 := by
  unfold groundP furtherP
  repeat' split
  all_goals simp
theorem end_len (p : PS) : (endP p).2.length ≤ 1 := by
  unfold endP
  simp only
  split <;> simp
theorem step0_len (p : PS) (b : Int) : (step0P p b).2.length ≤ 1 := by
  unfold step0P
  split
  · simp
  split
  · simp
  split
  · simp
  split
  · simp
  split
  · exact ground_len _ b
  split
  · unfold escapeP
    repeat' split
    all_goals simp
  split
  · unfold seqP
    repeat' split
    all_goals simp
  · simp
theorem step_len (p : PS) (b : Int) : (stepP p b).2.length ≤ 1 := by
  unfold stepP
  split
  · simp
  split
  · unfold strP
    split
    · exact end_len p
    split <;> simp
  split
  · unfold sendP
    split
    · exact end_len p
    split
    · simp
    · exact step0_len _ b
  · exact step0_len p b
theorem ext_at {s : Sto} {x : Nat} {ws ys : List W} (h : s[x]? = some (.lst ws)) (hl : ws.length + ys.length ≤ 10000000) : extF (.loc x) [.fl ys] s = .ok .non (s.set x (.lst (ws ++ ys))) := by
  simp only [extF, h, lstOf]
  rw [if_pos (ck_iff.mpr hl)]
theorem PAt.other {s : Sto} {l nl sl x : Nat} {p : PS} (h : PAt s l nl sl p) (y : O) (h1 : x ≠ l) (h2 : x ≠ nl) (h3 : x ≠ sl) : PAt (s.set x y) l nl sl p :=
  ⟨by rw [List.getElem?_set_ne h1]; exact h.ob, by rw [List.getElem?_set_ne h2]; exact h.ns, by rw [List.getElem?_set_ne h3]; exact h.ss, h.n1, h.n2, h.n3⟩
/-- one byte of take -/
theorem take_byte {s : Sto} {l nl sl x : Nat} {p : PS} {b : Int} {acc : List Act} {D : W} (h : PAt s l nl sl p) (g : PGood p) (hx : s[x]? = some (.lst (acc.map actW))) (x1 : x ≠ l) (x2 : x ≠ nl) (x3 : x ≠ sl) (hl : acc.length ≤ 1000000) :
    ∃ s' nl' sl', b_Parser_take_0 [some (.loc l), some D, some (.loc x), some (.int b)] s = .nx [some (.loc l), some D, some (.loc x), some (.int b)] s' ∧
      PAt s' l nl' sl' (stepP (if brokenP p b = true then { p with missing := 0 } else p) b).1 ∧ s'[x]? = some (.lst ((acc ++ ((if brokenP p b = true then [Act.print 65533] else []) ++ (stepP (if brokenP p b = true then { p with missing := 0 } else p) b).2)).map actW)) ∧
      s.length ≤ s'.length ∧ x ≠ nl' ∧ x ≠ sl' ∧ (nl' = nl ∨ s.length ≤ nl') ∧ (sl' = sl ∨ s.length ≤ sl') ∧ ∀ i, i < s.length → i ≠ l → i ≠ nl → i ≠ sl → i ≠ x → s'[i]? = s[i]? := by
  have xl := lt_of_at hx
  have ho := h.ob
  have lt := h.lt.1
  have hs : ∀ x, (s.set l x)[l]? = some x := fun x => List.getElem?_set_self lt
  have fin : ∀ (s1 : Sto) (q : PS) (ac : List Act), PAt s1 l nl sl q → PGood q → s1[x]? = some (.lst (ac.map actW)) → ac.length ≤ 1000001 → s1.length = s.length → (∀ i, i < s.length → i ≠ l → i ≠ nl → i ≠ sl → i ≠ x → s1[i]? = s[i]?) →
      ∃ s' nl' sl', exS (lmE extF (vr 2) (axc (mthE 0 d_Parser_step (vr 0) (axc (vr 3) axn)) axn)) [some (.loc l), some D, some (.loc x), some (.int b)] s1 = .nx [some (.loc l), some D, some (.loc x), some (.int b)] s' ∧
      PAt s' l nl' sl' (stepP q b).1 ∧ s'[x]? = some (.lst ((ac ++ (stepP q b).2).map actW)) ∧ s.length ≤ s'.length ∧ x ≠ nl' ∧ x ≠ sl' ∧ (nl' = nl ∨ s.length ≤ nl') ∧ (sl' = sl ∨ s.length ≤ sl') ∧ ∀ i, i < s.length → i ≠ l → i ≠ nl → i ≠ sl → i ≠ x → s'[i]? = s[i]? := by
    intro s1 q ac hq gq hx1 hac hle hk
    obtain ⟨s2, n2, m2, e, b1, b2⟩ := step_den (b := b) hq gq
    have isI : isIns 0 (.loc l) s1 = true := by simp [isIns, hq.ob]
    have lk : lstK s1 (.loc x) = some (ac.map actW) := by simp [lstK, lstOf, hx1]
    have hx2 : s2[x]? = some (.lst (ac.map actW)) := by rw [b2.keep x (by omega) x1 x2 x3]; exact hx1
    have y2 : x ≠ n2 := by rcases b2.a with z | z <;> omega
    have y3 : x ≠ m2 := by rcases b2.b with z | z <;> omega
    have sl1 := step_len q b
    have ex := ext_at (ys := (stepP q b).2.map actW) hx2 (by rw [List.length_map, List.length_map]; omega)
    refine ⟨s2.set x (.lst ((ac ++ (stepP q b).2).map actW)), n2, m2, ?_, b1.other _ x1 y2 y3, List.getElem?_set_self (lt_of_at hx2), by have := b2.len; rw [List.length_set]; omega, y2, y3, by rw [← hle]; exact b2.a, by rw [← hle]; exact b2.b, fun i hi j1 j2 j3 j4 => ?_⟩
    · rw [List.map_append]
      simp only [bodyD, pad, sqS, ifS, orB, andB, notB, tb, bn, un, vr, kk, rtS, rnS, exS, orE, andE, chn, ifE, trB, passS, noS, setS, asgS, parS, axc, axn, flE, lsE, tupE, clE, mthE, mkE, lmE, forS, sqI, rg1, rg2, gSb, gFd, setFS, augFS, gNm, gTp, gsC, gsN, augS, augI, bkS, ctS, whS, slE, oxn, oxs, lpS, List.map_cons, List.map_nil, List.length_cons, List.length_nil, List.replicate, List.cons_append, List.nil_append, Nat.reduceAdd, Nat.reduceSub, List.getElem?_cons_succ, List.getElem?_cons_zero, List.set_cons_zero, List.set_cons_succ, R.toS_ok, R.bind_ok, R.toS_ite, R.bind_ite, SR.go_nx, SR.go_rt, SR.go_bk, SR.go_ct, SR.go_ite, SR.lp_nx, SR.lp_rt, SR.lp_bk, SR.lp_ct, SR.lp_ite, fin_nx, fin_rt, fin_ite, W.cb_bl, if_true, if_false, Bool.false_eq_true, eq_int, ne_int, eq_bl, ne_bl, mx2, mn2, int0, notW, truW, fdiv_ok, mod_ok, mul_okl, add_int, neg_int, int_bl, int_int, listLF_fl, listF_fl, listF_tup, listLF_tup, Int.reduceLT, Int.reduceLE, Int.reduceNeg, decide_true, decide_false, lk, isI, e, ex]
    · rw [List.getElem?_set_ne (Ne.symm j4), b2.keep i (by omega) j1 j2 j3]
      exact hk i hi j1 j2 j3 j4
  have ap := app_at (w := actW (.print 65533)) hx (by rw [List.length_map]; omega)
  by_cases hb : brokenP p b = true
  · rw [if_pos hb, if_pos hb]
    obtain ⟨a1, a2⟩ := h.fld { p with missing := 0 } rfl rfl
    have hx1 : (s.set l (.ins 0 (pf { p with missing := 0 } nl sl)))[x]? = some (.lst (acc.map actW)) := by rw [List.getElem?_set_ne (Ne.symm x1)]; exact hx
    have ap1 := app_at (w := actW (.print 65533)) hx1 (by rw [List.length_map]; omega)
    have lk1 : lstK (s.set l (.ins 0 (pf { p with missing := 0 } nl sl))) (.loc x) = some (acc.map actW) := by simp only [lstK, lstOf, hx1]
    obtain ⟨s', n', m', e, r⟩ := fin ((s.set l (.ins 0 (pf { p with missing := 0 } nl sl))).set x (.lst ((acc ++ [Act.print 65533]).map actW))) { p with missing := 0 } (acc ++ [.print 65533]) (a1.other _ x1 x2 x3) ⟨fun z => absurd rfl z, g.ne, g.ln, g.st⟩
      (List.getElem?_set_self (lt_of_at hx1)) (by rw [List.length_append]; simp; omega) (by simp) (fun i hi j1 j2 j3 j4 => by rw [List.getElem?_set_ne (Ne.symm j4), List.getElem?_set_ne (Ne.symm j1)])
    refine ⟨s', n', m', ?_, by rw [← List.append_assoc]; exact r⟩
    have bb := hb
    unfold brokenP at bb
    rw [Bool.and_eq_true] at bb
    obtain ⟨b1, b2⟩ := bb
    unfold b_Parser_take_0
    rw [List.map_append, List.map_singleton] at e
    simp only [pf] at ho ap1 lk1 e
    simp only [actW] at ap1 e
    by_cases c1 : 128 ≤ b
    · have c2 : ¬ b ≤ 191 := by simpa [c1] using b2
      simp only [bodyD, pad, sqS, ifS, orB, andB, notB, tb, bn, un, vr, kk, rtS, rnS, exS, orE, andE, chn, ifE, trB, passS, noS, setS, asgS, parS, axc, axn, flE, lsE, tupE, clE, mthE, mkE, lmE, forS, sqI, rg1, rg2, gSb, gFd, setFS, augFS, gNm, gTp, gsC, gsN, augS, augI, bkS, ctS, whS, slE, oxn, oxs, lpS, List.map_cons, List.map_nil, List.length_cons, List.length_nil, List.replicate, List.cons_append, List.nil_append, Nat.reduceAdd, Nat.reduceSub, List.getElem?_cons_succ, List.getElem?_cons_zero, List.set_cons_zero, List.set_cons_succ, R.toS_ok, R.bind_ok, R.toS_ite, R.bind_ite, SR.go_nx, SR.go_rt, SR.go_bk, SR.go_ct, SR.go_ite, SR.lp_nx, SR.lp_rt, SR.lp_bk, SR.lp_ct, SR.lp_ite, fin_nx, fin_rt, fin_ite, W.cb_bl, if_true, if_false, Bool.false_eq_true, eq_int, ne_int, eq_bl, ne_bl, mx2, mn2, int0, notW, truW, fdiv_ok, mod_ok, mul_okl, add_int, neg_int, int_bl, int_int, listLF_fl, listF_fl, listF_tup, listLF_tup, Int.reduceLT, Int.reduceLE, Int.reduceNeg, decide_true, decide_false, fldW, ho, b1, c1, c2, decide_true, decide_false, Bool.not_false, lk1, ap1]
      simp only [bodyD, pad, sqS, ifS, orB, andB, notB, tb, bn, un, vr, kk, rtS, rnS, exS, orE, andE, chn, ifE, trB, passS, noS, setS, asgS, parS, axc, axn, flE, lsE, tupE, clE, mthE, mkE, lmE, forS, sqI, rg1, rg2, gSb, gFd, setFS, augFS, gNm, gTp, gsC, gsN, augS, augI, bkS, ctS, whS, slE, oxn, oxs, lpS, List.map_cons, List.map_nil, List.length_cons, List.length_nil, List.replicate, List.cons_append, List.nil_append, Nat.reduceAdd, Nat.reduceSub, List.getElem?_cons_succ, List.getElem?_cons_zero, List.set_cons_zero, List.set_cons_succ, R.toS_ok, R.bind_ok, R.toS_ite, R.bind_ite, SR.go_nx, SR.go_rt, SR.go_bk, SR.go_ct, SR.go_ite, SR.lp_nx, SR.lp_rt, SR.lp_bk, SR.lp_ct, SR.lp_ite, fin_nx, fin_rt, fin_ite, W.cb_bl, if_true, if_false, Bool.false_eq_true, eq_int, ne_int, eq_bl, ne_bl, mx2, mn2, int0, notW, truW, fdiv_ok, mod_ok, mul_okl, add_int, neg_int, int_bl, int_int, listLF_fl, listF_fl, listF_tup, listLF_tup, Int.reduceLT, Int.reduceLE, Int.reduceNeg, decide_true, decide_false] at e
      exact e
    · simp only [bodyD, pad, sqS, ifS, orB, andB, notB, tb, bn, un, vr, kk, rtS, rnS, exS, orE, andE, chn, ifE, trB, passS, noS, setS, asgS, parS, axc, axn, flE, lsE, tupE, clE, mthE, mkE, lmE, forS, sqI, rg1, rg2, gSb, gFd, setFS, augFS, gNm, gTp, gsC, gsN, augS, augI, bkS, ctS, whS, slE, oxn, oxs, lpS, List.map_cons, List.map_nil, List.length_cons, List.length_nil, List.replicate, List.cons_append, List.nil_append, Nat.reduceAdd, Nat.reduceSub, List.getElem?_cons_succ, List.getElem?_cons_zero, List.set_cons_zero, List.set_cons_succ, R.toS_ok, R.bind_ok, R.toS_ite, R.bind_ite, SR.go_nx, SR.go_rt, SR.go_bk, SR.go_ct, SR.go_ite, SR.lp_nx, SR.lp_rt, SR.lp_bk, SR.lp_ct, SR.lp_ite, fin_nx, fin_rt, fin_ite, W.cb_bl, if_true, if_false, Bool.false_eq_true, eq_int, ne_int, eq_bl, ne_bl, mx2, mn2, int0, notW, truW, fdiv_ok, mod_ok, mul_okl, add_int, neg_int, int_bl, int_int, listLF_fl, listF_fl, listF_tup, listLF_tup, Int.reduceLT, Int.reduceLE, Int.reduceNeg, decide_true, decide_false, fldW, ho, b1, c1, decide_true, decide_false, Bool.not_false, lk1, ap1]
      simp only [bodyD, pad, sqS, ifS, orB, andB, notB, tb, bn, un, vr, kk, rtS, rnS, exS, orE, andE, chn, ifE, trB, passS, noS, setS, asgS, parS, axc, axn, flE, lsE, tupE, clE, mthE, mkE, lmE, forS, sqI, rg1, rg2, gSb, gFd, setFS, augFS, gNm, gTp, gsC, gsN, augS, augI, bkS, ctS, whS, slE, oxn, oxs, lpS, List.map_cons, List.map_nil, List.length_cons, List.length_nil, List.replicate, List.cons_append, List.nil_append, Nat.reduceAdd, Nat.reduceSub, List.getElem?_cons_succ, List.getElem?_cons_zero, List.set_cons_zero, List.set_cons_succ, R.toS_ok, R.bind_ok, R.toS_ite, R.bind_ite, SR.go_nx, SR.go_rt, SR.go_bk, SR.go_ct, SR.go_ite, SR.lp_nx, SR.lp_rt, SR.lp_bk, SR.lp_ct, SR.lp_ite, fin_nx, fin_rt, fin_ite, W.cb_bl, if_true, if_false, Bool.false_eq_true, eq_int, ne_int, eq_bl, ne_bl, mx2, mn2, int0, notW, truW, fdiv_ok, mod_ok, mul_okl, add_int, neg_int, int_bl, int_int, listLF_fl, listF_fl, listF_tup, listLF_tup, Int.reduceLT, Int.reduceLE, Int.reduceNeg, decide_true, decide_false] at e
      exact e
  · rw [if_neg hb, if_neg hb, List.nil_append]
    obtain ⟨s', n', m', e, r⟩ := fin s p acc h g hx (by omega) rfl (fun i _ _ _ _ _ => rfl)
    refine ⟨s', n', m', ?_, r⟩
    have bb : brokenP p b = false := by simpa using hb
    unfold brokenP at bb
    unfold b_Parser_take_0
    simp only [pf] at ho
    by_cases c0 : 0 < p.missing
    · have c1 : 128 ≤ b ∧ b ≤ 191 := by
        rw [decide_eq_true c0, Bool.true_and] at bb
        simpa using bb
      simp only [bodyD, pad, sqS, ifS, orB, andB, notB, tb, bn, un, vr, kk, rtS, rnS, exS, orE, andE, chn, ifE, trB, passS, noS, setS, asgS, parS, axc, axn, flE, lsE, tupE, clE, mthE, mkE, lmE, forS, sqI, rg1, rg2, gSb, gFd, setFS, augFS, gNm, gTp, gsC, gsN, augS, augI, bkS, ctS, whS, slE, oxn, oxs, lpS, List.map_cons, List.map_nil, List.length_cons, List.length_nil, List.replicate, List.cons_append, List.nil_append, Nat.reduceAdd, Nat.reduceSub, List.getElem?_cons_succ, List.getElem?_cons_zero, List.set_cons_zero, List.set_cons_succ, R.toS_ok, R.bind_ok, R.toS_ite, R.bind_ite, SR.go_nx, SR.go_rt, SR.go_bk, SR.go_ct, SR.go_ite, SR.lp_nx, SR.lp_rt, SR.lp_bk, SR.lp_ct, SR.lp_ite, fin_nx, fin_rt, fin_ite, W.cb_bl, if_true, if_false, Bool.false_eq_true, eq_int, ne_int, eq_bl, ne_bl, mx2, mn2, int0, notW, truW, fdiv_ok, mod_ok, mul_okl, add_int, neg_int, int_bl, int_int, listLF_fl, listF_fl, listF_tup, listLF_tup, Int.reduceLT, Int.reduceLE, Int.reduceNeg, decide_true, decide_false, fldW, ho, c0, c1.1, c1.2, decide_true, Bool.not_true]
      simp only [bodyD, pad, sqS, ifS, orB, andB, notB, tb, bn, un, vr, kk, rtS, rnS, exS, orE, andE, chn, ifE, trB, passS, noS, setS, asgS, parS, axc, axn, flE, lsE, tupE, clE, mthE, mkE, lmE, forS, sqI, rg1, rg2, gSb, gFd, setFS, augFS, gNm, gTp, gsC, gsN, augS, augI, bkS, ctS, whS, slE, oxn, oxs, lpS, List.map_cons, List.map_nil, List.length_cons, List.length_nil, List.replicate, List.cons_append, List.nil_append, Nat.reduceAdd, Nat.reduceSub, List.getElem?_cons_succ, List.getElem?_cons_zero, List.set_cons_zero, List.set_cons_succ, R.toS_ok, R.bind_ok, R.toS_ite, R.bind_ite, SR.go_nx, SR.go_rt, SR.go_bk, SR.go_ct, SR.go_ite, SR.lp_nx, SR.lp_rt, SR.lp_bk, SR.lp_ct, SR.lp_ite, fin_nx, fin_rt, fin_ite, W.cb_bl, if_true, if_false, Bool.false_eq_true, eq_int, ne_int, eq_bl, ne_bl, mx2, mn2, int0, notW, truW, fdiv_ok, mod_ok, mul_okl, add_int, neg_int, int_bl, int_int, listLF_fl, listF_fl, listF_tup, listLF_tup, Int.reduceLT, Int.reduceLE, Int.reduceNeg, decide_true, decide_false] at e
      exact e
    · simp only [bodyD, pad, sqS, ifS, orB, andB, notB, tb, bn, un, vr, kk, rtS, rnS, exS, orE, andE, chn, ifE, trB, passS, noS, setS, asgS, parS, axc, axn, flE, lsE, tupE, clE, mthE, mkE, lmE, forS, sqI, rg1, rg2, gSb, gFd, setFS, augFS, gNm, gTp, gsC, gsN, augS, augI, bkS, ctS, whS, slE, oxn, oxs, lpS, List.map_cons, List.map_nil, List.length_cons, List.length_nil, List.replicate, List.cons_append, List.nil_append, Nat.reduceAdd, Nat.reduceSub, List.getElem?_cons_succ, List.getElem?_cons_zero, List.set_cons_zero, List.set_cons_succ, R.toS_ok, R.bind_ok, R.toS_ite, R.bind_ite, SR.go_nx, SR.go_rt, SR.go_bk, SR.go_ct, SR.go_ite, SR.lp_nx, SR.lp_rt, SR.lp_bk, SR.lp_ct, SR.lp_ite, fin_nx, fin_rt, fin_ite, W.cb_bl, if_true, if_false, Bool.false_eq_true, eq_int, ne_int, eq_bl, ne_bl, mx2, mn2, int0, notW, truW, fdiv_ok, mod_ok, mul_okl, add_int, neg_int, int_bl, int_int, listLF_fl, listF_fl, listF_tup, listLF_tup, Int.reduceLT, Int.reduceLE, Int.reduceNeg, decide_true, decide_false, fldW, ho, c0, decide_false]
      simp only [bodyD, pad, sqS, ifS, orB, andB, notB, tb, bn, un, vr, kk, rtS, rnS, exS, orE, andE, chn, ifE, trB, passS, noS, setS, asgS, parS, axc, axn, flE, lsE, tupE, clE, mthE, mkE, lmE, forS, sqI, rg1, rg2, gSb, gFd, setFS, augFS, gNm, gTp, gsC, gsN, augS, augI, bkS, ctS, whS, slE, oxn, oxs, lpS, List.map_cons, List.map_nil, List.length_cons, List.length_nil, List.replicate, List.cons_append, List.nil_append, Nat.reduceAdd, Nat.reduceSub, List.getElem?_cons_succ, List.getElem?_cons_zero, List.set_cons_zero, List.set_cons_succ, R.toS_ok, R.bind_ok, R.toS_ite, R.bind_ite, SR.go_nx, SR.go_rt, SR.go_bk, SR.go_ct, SR.go_ite, SR.lp_nx, SR.lp_rt, SR.lp_bk, SR.lp_ct, SR.lp_ite, fin_nx, fin_rt, fin_ite, W.cb_bl, if_true, if_false, Bool.false_eq_true, eq_int, ne_int, eq_bl, ne_bl, mx2, mn2, int0, notW, truW, fdiv_ok, mod_ok, mul_okl, add_int, neg_int, int_bl, int_int, listLF_fl, listF_fl, listF_tup, listLF_tup, Int.reduceLT, Int.reduceLE, Int.reduceNeg, decide_true, decide_false] at e
      exact e
theorem good_broken {p : PS} (g : PGood p) (b : Int) : PGood (if brokenP p b = true then { p with missing := 0 } else p) := by
  split
  · exact ⟨fun z => absurd rfl z, g.ne, g.ln, g.st⟩
  · exact g
theorem take_loop (D : W) (l x : Nat) : ∀ (bs : List Int) (acc : List Act) (s : Sto) (nl sl : Nat) (p : PS) (o : Option W), PAt s l nl sl p → PGood p → s[x]? = some (.lst (acc.map actW)) → x ≠ l → x ≠ nl → x ≠ sl → acc.length + 2 * bs.length ≤ 1000000 →
    ∃ s' nl' sl' o', forL (gNm 3) b_Parser_take_0 (bs.map W.int) [some (.loc l), some D, some (.loc x), o] s = .nx [some (.loc l), some D, some (.loc x), o'] s' ∧
      PAt s' l nl' sl' (takeP p bs).1 ∧ s'[x]? = some (.lst ((acc ++ (takeP p bs).2).map actW)) ∧ PGood (takeP p bs).1 ∧
      s.length ≤ s'.length ∧ x ≠ nl' ∧ x ≠ sl' ∧ (nl' = nl ∨ s.length ≤ nl') ∧ (sl' = sl ∨ s.length ≤ sl') ∧ ∀ i, i < s.length → i ≠ l → i ≠ nl → i ≠ sl → i ≠ x → s'[i]? = s[i]?
  | [], acc, s, nl, sl, p, o, h, g, hx, x1, x2, x3, hl => ⟨s, nl, sl, o, rfl, h, by simpa [takeP] using hx, g, Nat.le_refl _, x2, x3, .inl rfl, .inl rfl, fun _ _ _ _ _ _ => rfl⟩
  | b :: bs, acc, s, nl, sl, p, o, h, g, hx, x1, x2, x3, hl => by
    rw [List.length_cons] at hl
    obtain ⟨s1, n1, m1, e1, a1, hx1, l1, y2, y3, f1, f2, k1⟩ := take_byte (D := D) (b := b) h g hx x1 x2 x3 (by omega)
    have sl1 := step_len (if brokenP p b = true then { p with missing := 0 } else p) b
    have sl2 : (if brokenP p b = true then [Act.print 65533] else []).length ≤ 1 := by split <;> simp
    obtain ⟨s2, n2, m2, o2, e2, a2, hx2, g2, l2, z2, z3, q1, q2, k2⟩ := take_loop D l x bs _ s1 n1 m1 _ (some (.int b)) a1 (good_step (good_broken g b) b) hx1 x1 y2 y3 (by rw [List.length_append, List.length_append]; omega)
    refine ⟨s2, n2, m2, o2, ?_, a2, ?_, g2, by omega, z2, z3, by rcases q1 with q | q <;> omega, by rcases q2 with q | q <;> omega, fun i hi j1 j2 j3 j4 => ?_⟩
    · rw [List.map_cons]
      unfold forL
      simp only [bodyD, pad, sqS, ifS, orB, andB, notB, tb, bn, un, vr, kk, rtS, rnS, exS, orE, andE, chn, ifE, trB, passS, noS, setS, asgS, parS, axc, axn, flE, lsE, tupE, clE, mthE, mkE, lmE, forS, sqI, rg1, rg2, gSb, gFd, setFS, augFS, gNm, gTp, gsC, gsN, augS, augI, bkS, ctS, whS, slE, oxn, oxs, lpS, List.map_cons, List.map_nil, List.length_cons, List.length_nil, List.replicate, List.cons_append, List.nil_append, Nat.reduceAdd, Nat.reduceSub, List.getElem?_cons_succ, List.getElem?_cons_zero, List.set_cons_zero, List.set_cons_succ, R.toS_ok, R.bind_ok, R.toS_ite, R.bind_ite, SR.go_nx, SR.go_rt, SR.go_bk, SR.go_ct, SR.go_ite, SR.lp_nx, SR.lp_rt, SR.lp_bk, SR.lp_ct, SR.lp_ite, fin_nx, fin_rt, fin_ite, W.cb_bl, if_true, if_false, Bool.false_eq_true, eq_int, ne_int, eq_bl, ne_bl, mx2, mn2, int0, notW, truW, fdiv_ok, mod_ok, mul_okl, add_int, neg_int, int_bl, int_int, listLF_fl, listF_fl, listF_tup, listLF_tup, Int.reduceLT, Int.reduceLE, Int.reduceNeg, decide_true, decide_false]
      rw [e1]
      simp only [bodyD, pad, sqS, ifS, orB, andB, notB, tb, bn, un, vr, kk, rtS, rnS, exS, orE, andE, chn, ifE, trB, passS, noS, setS, asgS, parS, axc, axn, flE, lsE, tupE, clE, mthE, mkE, lmE, forS, sqI, rg1, rg2, gSb, gFd, setFS, augFS, gNm, gTp, gsC, gsN, augS, augI, bkS, ctS, whS, slE, oxn, oxs, lpS, List.map_cons, List.map_nil, List.length_cons, List.length_nil, List.replicate, List.cons_append, List.nil_append, Nat.reduceAdd, Nat.reduceSub, List.getElem?_cons_succ, List.getElem?_cons_zero, List.set_cons_zero, List.set_cons_succ, R.toS_ok, R.bind_ok, R.toS_ite, R.bind_ite, SR.go_nx, SR.go_rt, SR.go_bk, SR.go_ct, SR.go_ite, SR.lp_nx, SR.lp_rt, SR.lp_bk, SR.lp_ct, SR.lp_ite, fin_nx, fin_rt, fin_ite, W.cb_bl, if_true, if_false, Bool.false_eq_true, eq_int, ne_int, eq_bl, ne_bl, mx2, mn2, int0, notW, truW, fdiv_ok, mod_ok, mul_okl, add_int, neg_int, int_bl, int_int, listLF_fl, listF_fl, listF_tup, listLF_tup, Int.reduceLT, Int.reduceLE, Int.reduceNeg, decide_true, decide_false]
      exact e2
    · rw [hx2, List.append_assoc]
      rfl
    · rw [k2 i (by omega) j1 (by rcases f1 with q | q <;> omega) (by rcases f2 with q | q <;> omega) j4]
      exact k1 i hi j1 j2 j3 j4
theorem take_den {s : Sto} {l nl sl : Nat} {p : PS} {bs : List Int} (h : PAt s l nl sl p) (g : PGood p) (hl : bs.length ≤ 400000) :
    ∃ s' nl' sl', r_Parser_take [.loc l, .fl (bs.map W.int)] s = .ok (.loc s.length) s' ∧ PAt s' l nl' sl' (takeP p bs).1 ∧ PGood (takeP p bs).1 ∧ s'[s.length]? = some (.lst ((takeP p bs).2.map actW)) ∧
      s.length < s'.length ∧ (nl' = nl ∨ s.length < nl') ∧ (sl' = sl ∨ s.length < sl') ∧ ∀ i, i < s.length → i ≠ l → i ≠ nl → i ≠ sl → s'[i]? = s[i]? := by
  obtain ⟨u1, u2, u3⟩ := h.lt
  have h0 : PAt (s ++ [.lst []]) l nl sl p := ⟨by rw [List.getElem?_append_left u1]; exact h.ob, by rw [List.getElem?_append_left u2]; exact h.ns, by rw [List.getElem?_append_left u3]; exact h.ss, h.n1, h.n2, h.n3⟩
  obtain ⟨s', n', m', o', e, a, hx, g', ln, y2, y3, f1, f2, k⟩ := take_loop (.fl (bs.map W.int)) l s.length bs [] (s ++ [.lst []]) nl sl p none h0 g (by simp) (by omega) (by omega) (by omega) (by simp; omega)
  rw [List.length_append, List.length_singleton] at ln f1 f2 k
  refine ⟨s', n', m', ?_, a, g', by simpa using hx, by omega, by omega, by omega, fun i hi j1 j2 j3 => ?_⟩
  · unfold r_Parser_take
    simp only [bodyD, pad, sqS, ifS, orB, andB, notB, tb, bn, un, vr, kk, rtS, rnS, exS, orE, andE, chn, ifE, trB, passS, noS, setS, asgS, parS, axc, axn, flE, lsE, tupE, clE, mthE, mkE, lmE, forS, sqI, rg1, rg2, gSb, gFd, setFS, augFS, gNm, gTp, gsC, gsN, augS, augI, bkS, ctS, whS, slE, oxn, oxs, lpS, List.map_cons, List.map_nil, List.length_cons, List.length_nil, List.replicate, List.cons_append, List.nil_append, Nat.reduceAdd, Nat.reduceSub, List.getElem?_cons_succ, List.getElem?_cons_zero, List.set_cons_zero, List.set_cons_succ, R.toS_ok, R.bind_ok, R.toS_ite, R.bind_ite, SR.go_nx, SR.go_rt, SR.go_bk, SR.go_ct, SR.go_ite, SR.lp_nx, SR.lp_rt, SR.lp_bk, SR.lp_ct, SR.lp_ite, fin_nx, fin_rt, fin_ite, W.cb_bl, if_true, if_false, Bool.false_eq_true, eq_int, ne_int, eq_bl, ne_bl, mx2, mn2, int0, notW, truW, fdiv_ok, mod_ok, mul_okl, add_int, neg_int, int_bl, int_int, listLF_fl, listF_fl, listF_tup, listLF_tup, Int.reduceLT, Int.reduceLE, Int.reduceNeg, decide_true, decide_false, e]
  · rw [k i (by omega) j1 j2 j3 (by omega), List.getElem?_append_left hi]
theorem ix_mod {fs : List Int} (hf : fs ≠ []) (y : Int) (n : Int) (hn : n = fs.length) (s : Sto) : ixW (.fl (fs.map W.int)) (.int (y % n)) s = .ok (.int (fs.getD (y % n).toNat 0)) s := by
  subst hn
  have fp : 0 < fs.length := List.length_pos_iff.mpr hf
  have h0 := Int.emod_nonneg y (show (fs.length : Int) ≠ 0 by omega)
  have h1 := Int.emod_lt_of_pos y (show (0 : Int) < fs.length by omega)
  have := atI_getD W.int fs 0 (i := (y % fs.length).toNat) (by omega)
  rw [Int.toNat_of_nonneg h0] at this
  exact ixW_lst (seqOf_fl ..) this
/-! ### actions are compared -/
def actD : Act → PyData
  | .print p => .tuple [.str "print", .int p]
  | .control b => .tuple [.str "control", .int b]
  | .escape b => .tuple [.str "escape", .int b]
  | .seq q ns b => .tuple [.str "sequence", .int q, .tuple (ns.map PyData.int), .int b]
  | .title t => .tuple [.str "title", .tuple (t.map PyData.int)]
theorem ints_cl (ns : List Int) : Cl (.tup (ns.map W.int)) := .tup (Cl.map fun x => .int x)
theorem ints_datL (ns : List Int) : datL (ns.map W.int) = some (ns.map PyData.int) := datL_map cInt ns
theorem ints_dep (ns : List Int) : PyData.depthAll (ns.map PyData.int) ≤ 0 := dep_mapC cInt ns
theorem ints_lay (ns : List Int) : PyData.canLayAll0 (ns.map PyData.int) = true := lay_mapC cInt ns
theorem ints_eqv (xs ys : List Int) : PyData.eqvAll (xs.map PyData.int) (ys.map PyData.int) = decide (xs = ys) := eqv_mapC cInt xs ys
def cAct : Cod Act where
  w := actW
  d := actD
  n := 4
  cl := fun a => by
    cases a with
    | print p => exact .tup (by simp; exact ⟨.str _, .int _⟩)
    | control p => exact .tup (by simp; exact ⟨.str _, .int _⟩)
    | escape p => exact .tup (by simp; exact ⟨.str _, .int _⟩)
    | seq q ns b => exact .tup (by simp; exact ⟨.str _, .int _, ints_cl ns, .int _⟩)
    | title t => exact .tup (by simp; exact ⟨.str _, ints_cl t⟩)
  dat := fun a => by cases a <;> simp [actW, actD, datW, datL, ints_datL]
  lay := fun a => by cases a <;> simp only [actD, PyData.canLay0, PyData.canLayAll0, ints_lay] <;> decide +kernel
  dep := fun a => by
    cases a with
    | seq q ns b => have := ints_dep ns; simp [actD, PyData.depth, PyData.depthAll]; omega
    | title t => have := ints_dep t; simp [actD, PyData.depth, PyData.depthAll]; omega
    | _ => simp [actD, PyData.depth, PyData.depthAll]
  eqv := fun a b => by
    have ie : ∀ a b : Int, (a == b) = decide (a = b) := fun _ _ => rfl
    have n1 : ¬ (Str.ofString "print" = Str.ofString "control") := by decide +kernel
    have n2 : ¬ (Str.ofString "print" = Str.ofString "escape") := by decide +kernel
    have n3 : ¬ (Str.ofString "control" = Str.ofString "print") := by decide +kernel
    have n4 : ¬ (Str.ofString "control" = Str.ofString "escape") := by decide +kernel
    have n5 : ¬ (Str.ofString "escape" = Str.ofString "print") := by decide +kernel
    have n6 : ¬ (Str.ofString "escape" = Str.ofString "control") := by decide +kernel
    cases a <;> cases b <;> simp [actD, PyData.eqv, PyData.eqvAll, ints_eqv, ie, n1, n2, n3, n4, n5, n6]
theorem dat_at {α : Type} [DecidableEq α] (c : Cod α) {s : Sto} {x : W} {xs : List α} (h : lstOf s x = some (xs.map c.w)) : datS s 3 x = some (.list (xs.map c.d)) := by
  have key : ∀ xs : List α, (xs.map c.w).mapM (datS s 2) = some (xs.map c.d) := by
    intro xs
    induction xs with
    | nil => rfl
    | cons y ys ih =>
      rw [List.map_cons, List.mapM_cons, datS_cl (c.cl y), c.dat, ih]
      rfl
  unfold datS
  simp only [h, key, Option.map_some]
theorem ne_at {α : Type} [DecidableEq α] (c : Cod α) (hn : c.n ≤ 60) {s : Sto} {x y : W} {xs ys : List α} (h1 : lstOf s x = some (xs.map c.w)) (h2 : lstOf s y = some (ys.map c.w)) : neW x y s = .ok (.bl (!decide (xs = ys))) s := by
  have sh : ∀ xs : List α, SeqAt.shaped (.list (xs.map c.d)) = true := fun xs => by
    unfold SeqAt.shaped
    rw [Bool.and_eq_true]
    refine ⟨(cLst c).lay xs, decide_eq_true (Nat.le_trans ((cLst c).dep xs) ?_)⟩
    show c.n + 1 ≤ _
    omega
  have ev : PyData.eqv (.list (xs.map c.d)) (.list (ys.map c.d)) = decide (xs = ys) := (cLst c).eqv xs ys
  simp only [neW, dat_at c h1, dat_at c h2, sh, ev, and_self, if_true]
theorem resting_den {s : Sto} {l nl sl : Nat} {p : PS} (h : PAt s l nl sl p) : r_Parser_resting [.loc l] s = .ok (.bl (decide (p.mode = 0) && decide (p.missing = 0))) s := by
  have ob := h.ob
  simp only [pf] at ob
  have e0 : (p.mode == 0) = decide (p.mode = 0) := rfl
  have e1 : (p.missing == 0) = decide (p.missing = 0) := rfl
  unfold r_Parser_resting
  by_cases h1 : p.mode = 0
  · have h1 : decide (p.mode = 0) = true := decide_eq_true h1
    simp only [bodyD, pad, sqS, ifS, orB, andB, notB, tb, bn, un, vr, kk, rtS, rnS, exS, orE, andE, chn, ifE, trB, passS, noS, setS, asgS, parS, axc, axn, flE, lsE, tupE, clE, mthE, mkE, lmE, forS, sqI, rg1, rg2, gSb, gFd, setFS, augFS, gNm, gTp, gsC, gsN, augS, augI, bkS, ctS, whS, slE, oxn, oxs, lpS, List.map_cons, List.map_nil, List.length_cons, List.length_nil, List.replicate, List.cons_append, List.nil_append, Nat.reduceAdd, Nat.reduceSub, List.getElem?_cons_succ, List.getElem?_cons_zero, List.set_cons_zero, List.set_cons_succ, R.toS_ok, R.bind_ok, R.toS_ite, R.bind_ite, SR.go_nx, SR.go_rt, SR.go_bk, SR.go_ct, SR.go_ite, SR.lp_nx, SR.lp_rt, SR.lp_bk, SR.lp_ct, SR.lp_ite, fin_nx, fin_rt, fin_ite, W.cb_bl, if_true, if_false, Bool.false_eq_true, eq_int, ne_int, eq_bl, ne_bl, mx2, mn2, int0, notW, truW, fdiv_ok, mod_ok, mul_okl, add_int, neg_int, int_bl, int_int, listLF_fl, listF_fl, listF_tup, listLF_tup, Int.reduceLT, Int.reduceLE, Int.reduceNeg, decide_true, decide_false, fldW, ob, e0, e1, h1, Bool.true_and]
  · have h1 : decide (p.mode = 0) = false := decide_eq_false h1
    simp only [bodyD, pad, sqS, ifS, orB, andB, notB, tb, bn, un, vr, kk, rtS, rnS, exS, orE, andE, chn, ifE, trB, passS, noS, setS, asgS, parS, axc, axn, flE, lsE, tupE, clE, mthE, mkE, lmE, forS, sqI, rg1, rg2, gSb, gFd, setFS, augFS, gNm, gTp, gsC, gsN, augS, augI, bkS, ctS, whS, slE, oxn, oxs, lpS, List.map_cons, List.map_nil, List.length_cons, List.length_nil, List.replicate, List.cons_append, List.nil_append, Nat.reduceAdd, Nat.reduceSub, List.getElem?_cons_succ, List.getElem?_cons_zero, List.set_cons_zero, List.set_cons_succ, R.toS_ok, R.bind_ok, R.toS_ite, R.bind_ite, SR.go_nx, SR.go_rt, SR.go_bk, SR.go_ct, SR.go_ite, SR.lp_nx, SR.lp_rt, SR.lp_bk, SR.lp_ct, SR.lp_ite, fin_nx, fin_rt, fin_ite, W.cb_bl, if_true, if_false, Bool.false_eq_true, eq_int, ne_int, eq_bl, ne_bl, mx2, mn2, int0, notW, truW, fdiv_ok, mod_ok, mul_okl, add_int, neg_int, int_bl, int_int, listLF_fl, listF_fl, listF_tup, listLF_tup, Int.reduceLT, Int.reduceLE, Int.reduceNeg, decide_true, decide_false, fldW, ob, e0, e1, h1, Bool.false_and]

def b__law_cuts_0 : Sx := (sqS (exS (lmE appF (vr 3) (axc (slE slF (vr 0) (oxs (vr 4)) (oxs (vr 5))) axn))) (setS 4 (vr 5)))
/-! _law_cuts -/
def r__law_cuts : List W → Sto → R W := bodyD 7 (sqS (setS 2 (clE sortF (axc (lcE [6] (sqI (vr 1)) (ct1 6) yesB (bn modW (clE intF (axc (vr 6) axn)) (bn addW (clE lenF (axc (vr 0) axn)) (kk (.int 1))))) axn))) (sqS (setS 3 (lsE axn)) (sqS (setS 4 (kk (.int 0))) (sqS (forS (sqI (vr 2)) (gNm 5) b__law_cuts_0) (sqS (exS (lmE appF (vr 3) (axc (slE slF (vr 0) (oxs (vr 4)) oxn) axn))) (rtS (vr 3)))))))
abbrev d__law_cuts : List W → Sto → R W := r__law_cuts
theorem cut_both {α : Type} (xs : List α) (a b : Nat) : cutL xs (some (a : Int)) (some (b : Int)) = (xs.take b).drop a := by
  unfold cutL
  rw [HT.sIx_nat, HT.sIx_nat, List.drop_take]
  by_cases h : a ≤ xs.length
  · rw [Nat.min_eq_left h, List.take_eq_take_iff, List.length_drop]
    omega
  · rw [List.drop_eq_nil_of_le (by omega), List.drop_eq_nil_of_le (by omega)]
    simp
/-- the bytes, cut at places -/
def cutsP (d : List Int) : Nat → List Nat → List (List Int)
  | a, [] => [d.drop a]
  | a, p :: ps => ((d.take p).drop a) :: cutsP d p ps
theorem cuts_flat (d : List Int) : ∀ (ps : List Nat) (a : Nat), (∀ p ∈ ps, a ≤ p ∧ p ≤ d.length) → ps.Pairwise (· ≤ ·) → (cutsP d a ps).flatten = d.drop a
  | [], a, _, _ => by simp [cutsP]
  | p :: ps, a, h, hp => by
    rw [List.pairwise_cons] at hp
    unfold cutsP
    rw [List.flatten_cons, cuts_flat d ps p (fun q hq => ⟨hp.1 q hq, (h q (by simp [hq])).2⟩) hp.2]
    obtain ⟨h1, h2⟩ := h p (by simp)
    conv => rhs; rw [← List.take_append_drop p d]
    rw [List.drop_append_of_le_length (by rw [List.length_take]; omega)]
theorem cutsP_len (d : List Int) : ∀ (ps : List Nat) (a : Nat), (cutsP d a ps).length = ps.length + 1
  | [], a => rfl
  | p :: ps, a => by unfold cutsP; rw [List.length_cons, cutsP_len d ps p, List.length_cons]
abbrev flW (xs : List Int) : W := .fl (xs.map W.int)
theorem cuts_loop (d : List Int) (X Y : W) (n : Nat) : ∀ (ps : List Nat) (a : Nat) (acc : List (List Int)) (o o6 : Option W) (s : Sto), s[n]? = some (.lst (acc.map flW)) → acc.length + ps.length < 10000000 →
    ∃ (a' : Nat) (o' : Option W) (us : List (List Int)), forL (gNm 5) b__law_cuts_0 (ps.map fun (p : Nat) => W.int (p : Int)) [some (flW d), some X, some Y, some (.loc n), some (.int (a : Int)), o, o6] s =
        .nx [some (flW d), some X, some Y, some (.loc n), some (.int (a' : Int)), o', o6] (s.set n (.lst ((acc ++ us).map flW))) ∧ us ++ [d.drop a'] = cutsP d a ps
  | [], a, acc, o, o6, s, h, hl => ⟨a, o, [], by rw [List.append_nil, set_same h]; rfl, rfl⟩
  | p :: ps, a, acc, o, o6, s, h, hl => by
    rw [List.length_cons] at hl
    have lt := lt_of_at h
    have lk : lstK s (.loc n) = some (acc.map flW) := by simp only [lstK, lstOf, h]
    have ap := app_at (w := flW ((d.take p).drop a)) h (by rw [List.length_map]; omega)
    have sl : slF (flW d) (some (a : Int)) (some (p : Int)) s = .ok (flW ((d.take p).drop a)) s := by
      have := cut_both (d.map W.int) a p
      simp only [slF, lstK, lstOf]
      rw [this, ← List.map_take, ← List.map_drop]
    obtain ⟨a', o', us, e, f⟩ := cuts_loop d X Y n ps p (acc ++ [(d.take p).drop a]) (some (.int (p : Int))) o6 (s.set n (.lst ((acc ++ [(d.take p).drop a]).map flW))) (List.getElem?_set_self lt) (by simp; omega)
    refine ⟨a', o', (d.take p).drop a :: us, ?_, by rw [List.cons_append, f]; rfl⟩
    have bd : b__law_cuts_0 [some (flW d), some X, some Y, some (.loc n), some (.int (a : Int)), some (.int (p : Int)), o6] s = .nx [some (flW d), some X, some Y, some (.loc n), some (.int (p : Int)), some (.int (p : Int)), o6] (s.set n (.lst ((acc ++ [(d.take p).drop a]).map flW))) := by
      rw [List.map_append, List.map_singleton]
      unfold b__law_cuts_0
      simp only [bodyD, pad, sqS, ifS, orB, andB, notB, tb, bn, un, vr, kk, rtS, rnS, exS, orE, andE, chn, ifE, trB, passS, noS, setS, asgS, parS, axc, axn, flE, lsE, tupE, clE, mthE, mkE, lmE, forS, sqI, rg1, rg2, gSb, gFd, setFS, augFS, gNm, gTp, gsC, gsN, augS, augI, bkS, ctS, whS, slE, oxn, oxs, lpS, List.map_cons, List.map_nil, List.length_cons, List.length_nil, List.replicate, List.cons_append, List.nil_append, Nat.reduceAdd, Nat.reduceSub, List.getElem?_cons_succ, List.getElem?_cons_zero, List.set_cons_zero, List.set_cons_succ, R.toS_ok, R.bind_ok, R.toS_ite, R.bind_ite, SR.go_nx, SR.go_rt, SR.go_bk, SR.go_ct, SR.go_ite, SR.lp_nx, SR.lp_rt, SR.lp_bk, SR.lp_ct, SR.lp_ite, fin_nx, fin_rt, fin_ite, W.cb_bl, if_true, if_false, Bool.false_eq_true, eq_int, ne_int, eq_bl, ne_bl, mx2, mn2, int0, notW, truW, fdiv_ok, mod_ok, mul_okl, add_int, neg_int, int_bl, int_int, listLF_fl, listF_fl, listF_tup, listLF_tup, Int.reduceLT, Int.reduceLE, Int.reduceNeg, decide_true, decide_false, sl, lk, ap]
    rw [List.map_cons]
    unfold forL
    simp only [bodyD, pad, sqS, ifS, orB, andB, notB, tb, bn, un, vr, kk, rtS, rnS, exS, orE, andE, chn, ifE, trB, passS, noS, setS, asgS, parS, axc, axn, flE, lsE, tupE, clE, mthE, mkE, lmE, forS, sqI, rg1, rg2, gSb, gFd, setFS, augFS, gNm, gTp, gsC, gsN, augS, augI, bkS, ctS, whS, slE, oxn, oxs, lpS, List.map_cons, List.map_nil, List.length_cons, List.length_nil, List.replicate, List.cons_append, List.nil_append, Nat.reduceAdd, Nat.reduceSub, List.getElem?_cons_succ, List.getElem?_cons_zero, List.set_cons_zero, List.set_cons_succ, R.toS_ok, R.bind_ok, R.toS_ite, R.bind_ite, SR.go_nx, SR.go_rt, SR.go_bk, SR.go_ct, SR.go_ite, SR.lp_nx, SR.lp_rt, SR.lp_bk, SR.lp_ct, SR.lp_ite, fin_nx, fin_rt, fin_ite, W.cb_bl, if_true, if_false, Bool.false_eq_true, eq_int, ne_int, eq_bl, ne_bl, mx2, mn2, int0, notW, truW, fdiv_ok, mod_ok, mul_okl, add_int, neg_int, int_bl, int_int, listLF_fl, listF_fl, listF_tup, listLF_tup, Int.reduceLT, Int.reduceLE, Int.reduceNeg, decide_true, decide_false]
    rw [bd]
    simp only [bodyD, pad, sqS, ifS, orB, andB, notB, tb, bn, un, vr, kk, rtS, rnS, exS, orE, andE, chn, ifE, trB, passS, noS, setS, asgS, parS, axc, axn, flE, lsE, tupE, clE, mthE, mkE, lmE, forS, sqI, rg1, rg2, gSb, gFd, setFS, augFS, gNm, gTp, gsC, gsN, augS, augI, bkS, ctS, whS, slE, oxn, oxs, lpS, List.map_cons, List.map_nil, List.length_cons, List.length_nil, List.replicate, List.cons_append, List.nil_append, Nat.reduceAdd, Nat.reduceSub, List.getElem?_cons_succ, List.getElem?_cons_zero, List.set_cons_zero, List.set_cons_succ, R.toS_ok, R.bind_ok, R.toS_ite, R.bind_ite, SR.go_nx, SR.go_rt, SR.go_bk, SR.go_ct, SR.go_ite, SR.lp_nx, SR.lp_rt, SR.lp_bk, SR.lp_ct, SR.lp_ite, fin_nx, fin_rt, fin_ite, W.cb_bl, if_true, if_false, Bool.false_eq_true, eq_int, ne_int, eq_bl, ne_bl, mx2, mn2, int0, notW, truW, fdiv_ok, mod_ok, mul_okl, add_int, neg_int, int_bl, int_int, listLF_fl, listF_fl, listF_tup, listLF_tup, Int.reduceLT, Int.reduceLE, Int.reduceNeg, decide_true, decide_false]
    rw [e, List.set_set, List.append_assoc]
    rfl
theorem cuts_den (d cs : List Int) (hc : cs.length ≤ 100) (s : Sto) : ∃ ps : List (List Int), r__law_cuts [.fl (d.map W.int), .fl (cs.map W.int)] s = .ok (.loc s.length) (s ++ [.lst (ps.map flW)]) ∧ ps.flatten = d ∧ ps.length ≤ 101 := by
  have lc : lcE [6] (sqI (vr 1)) (ct1 6) yesB (bn modW (clE intF (axc (vr 6) axn)) (bn addW (clE lenF (axc (vr 0) axn)) (kk (.int 1)))) [some (flW d), some (flW cs), none, none, none, none, none] s = .ok (.fl ((cs.map fun c => c % ((d.length : Int) + 1)).map W.int)) s := by
    rw [lcE_fl (ws := cs.map W.int) (st := s) (ys := cs.map fun c => W.int (c % ((d.length : Int) + 1))) (by simp only [bodyD, pad, sqS, ifS, orB, andB, notB, tb, bn, un, vr, kk, rtS, rnS, exS, orE, andE, chn, ifE, trB, passS, noS, setS, asgS, parS, axc, axn, flE, lsE, tupE, clE, mthE, mkE, lmE, forS, sqI, rg1, rg2, gSb, gFd, setFS, augFS, gNm, gTp, gsC, gsN, augS, augI, bkS, ctS, whS, slE, oxn, oxs, lpS, List.map_cons, List.map_nil, List.length_cons, List.length_nil, List.replicate, List.cons_append, List.nil_append, Nat.reduceAdd, Nat.reduceSub, List.getElem?_cons_succ, List.getElem?_cons_zero, List.set_cons_zero, List.set_cons_succ, R.toS_ok, R.bind_ok, R.toS_ite, R.bind_ite, SR.go_nx, SR.go_rt, SR.go_bk, SR.go_ct, SR.go_ite, SR.lp_nx, SR.lp_rt, SR.lp_bk, SR.lp_ct, SR.lp_ite, fin_nx, fin_rt, fin_ite, W.cb_bl, if_true, if_false, Bool.false_eq_true, eq_int, ne_int, eq_bl, ne_bl, mx2, mn2, int0, notW, truW, fdiv_ok, mod_ok, mul_okl, add_int, neg_int, int_bl, int_int, listLF_fl, listF_fl, listF_tup, listLF_tup, Int.reduceLT, Int.reduceLE, Int.reduceNeg, decide_true, decide_false]) (by rw [List.length_map]; omega) ?_, List.map_map]
    · rfl
    · refine lcL_map1 (enc := W.int) (f := fun c => W.int (c % ((d.length : Int) + 1))) _ fun c _ => ⟨_, rfl, ?_⟩
      have ln : lenF [flW d] s = .ok (.int (d.length : Int)) s := by simp [lenF, seqOf, lstOf]
      have md : modW (.int c) (.int ((d.length : Int) + 1)) s = .ok (.int (c % ((d.length : Int) + 1))) s := mod_ok (by omega)
      simp only [bodyD, pad, sqS, ifS, orB, andB, notB, tb, bn, un, vr, kk, rtS, rnS, exS, orE, andE, chn, ifE, trB, passS, noS, setS, asgS, parS, axc, axn, flE, lsE, tupE, clE, mthE, mkE, lmE, forS, sqI, rg1, rg2, gSb, gFd, setFS, augFS, gNm, gTp, gsC, gsN, augS, augI, bkS, ctS, whS, slE, oxn, oxs, lpS, List.map_cons, List.map_nil, List.length_cons, List.length_nil, List.replicate, List.cons_append, List.nil_append, Nat.reduceAdd, Nat.reduceSub, List.getElem?_cons_succ, List.getElem?_cons_zero, List.set_cons_zero, List.set_cons_succ, R.toS_ok, R.bind_ok, R.toS_ite, R.bind_ite, SR.go_nx, SR.go_rt, SR.go_bk, SR.go_ct, SR.go_ite, SR.lp_nx, SR.lp_rt, SR.lp_bk, SR.lp_ct, SR.lp_ite, fin_nx, fin_rt, fin_ite, W.cb_bl, if_true, if_false, Bool.false_eq_true, eq_int, ne_int, eq_bl, ne_bl, mx2, mn2, int0, notW, truW, fdiv_ok, mod_ok, mul_okl, add_int, neg_int, int_bl, int_int, listLF_fl, listF_fl, listF_tup, listLF_tup, Int.reduceLT, Int.reduceLE, Int.reduceNeg, decide_true, decide_false, wipeE, ln, md]
  generalize hw : (cs.map fun c => c % ((d.length : Int) + 1)) = ws at lc
  have wl : ws.length = cs.length := by rw [← hw, List.length_map]
  have wm : ∀ x ∈ ws, 0 ≤ x ∧ x ≤ d.length := fun x hx => by
    rw [← hw] at hx
    obtain ⟨c, _, rfl⟩ := List.mem_map.mp hx
    have := Int.emod_nonneg c (show (d.length : Int) + 1 ≠ 0 by omega)
    have := Int.emod_lt_of_pos c (show (0 : Int) < (d.length : Int) + 1 by omega)
    omega
  have so : sortF [.fl (ws.map W.int)] s = .ok (.fl ((isort ws).map W.int)) s := by
    simp only [sortF, lstK_fl, Option.bind_some, intsOf_map]
  have sm : ∀ x ∈ isort ws, 0 ≤ x ∧ x ≤ d.length := fun x hx => wm x ((isort_perm ws).mem_iff.mp hx)
  have su := isort_up ws
  have sl : (isort ws).length = cs.length := by rw [(isort_perm ws).length_eq, wl]
  generalize isort ws = qs at *
  obtain ⟨ps, hp⟩ : ∃ ps : List Nat, ps = qs.map Int.toNat := ⟨_, rfl⟩
  have hq : qs.map W.int = ps.map fun (p : Nat) => W.int (p : Int) := by
    rw [hp, List.map_map]
    refine List.map_congr_left fun x hx => ?_
    show W.int x = W.int ((x.toNat : Nat) : Int)
    rw [Int.toNat_of_nonneg (sm x hx).1]
  have pu : ps.Pairwise (· ≤ ·) := by
    rw [hp, List.pairwise_map]
    exact su.imp fun {a b} h => by omega
  have pm : ∀ p ∈ ps, 0 ≤ p ∧ p ≤ d.length := fun p h => by
    rw [hp] at h
    obtain ⟨x, hx, rfl⟩ := List.mem_map.mp h
    have := sm x hx
    omega
  have pl : ps.length = cs.length := by rw [hp, List.length_map, sl]
  obtain ⟨a', o', us, e, f⟩ := cuts_loop d (flW cs) (.fl (qs.map W.int)) s.length ps 0 [] none none (s ++ [.lst []]) (by simp) (by simp; omega)
  refine ⟨cutsP d 0 ps, ?_, by rw [cuts_flat d ps 0 pm pu, List.drop_zero], by rw [cutsP_len]; omega⟩
  rw [← f]
  have e2 : (s ++ [O.lst []]).set s.length (.lst (([] ++ us).map flW)) = s ++ [.lst (us.map flW)] := by rw [List.nil_append]; simp
  rw [e2, ← hq] at e
  have lk : lstK (s ++ [.lst (us.map flW)]) (.loc s.length) = some (us.map flW) := by simp [lstK, lstOf]
  have ul : us.length ≤ cs.length := by
    have := congrArg List.length f
    rw [List.length_append, cutsP_len] at this
    simp at this
    omega
  have ap := app_at (s := s ++ [.lst (us.map flW)]) (nl := s.length) (ws := us.map flW) (w := flW (d.drop a')) (by simp) (by rw [List.length_map]; omega)
  have sl2 : ∀ s, slF (flW d) (some (a' : Int)) none s = .ok (flW (d.drop a')) s := fun s => by
    have := cutL_from (d.map W.int) a'
    simp only [slF, lstK, lstOf]
    rw [this, ← List.map_drop]
  have e3 : (s ++ [O.lst (us.map flW)]).set s.length (.lst (us.map flW ++ [flW (d.drop a')])) = s ++ [.lst ((us ++ [d.drop a']).map flW)] := by simp
  unfold r__law_cuts
  refine body_of ?_
  rw [sq_nx (e := [some (flW d), some (flW cs), some (.fl (qs.map W.int)), none, none, none, none]) (s := s) (by simp only [bodyD, pad, sqS, ifS, orB, andB, notB, tb, bn, un, vr, kk, rtS, rnS, exS, orE, andE, chn, ifE, trB, passS, noS, setS, asgS, parS, axc, axn, flE, lsE, tupE, clE, mthE, mkE, lmE, forS, sqI, rg1, rg2, gSb, gFd, setFS, augFS, gNm, gTp, gsC, gsN, augS, augI, bkS, ctS, whS, slE, oxn, oxs, lpS, List.map_cons, List.map_nil, List.length_cons, List.length_nil, List.replicate, List.cons_append, List.nil_append, Nat.reduceAdd, Nat.reduceSub, List.getElem?_cons_succ, List.getElem?_cons_zero, List.set_cons_zero, List.set_cons_succ, R.toS_ok, R.bind_ok, R.toS_ite, R.bind_ite, SR.go_nx, SR.go_rt, SR.go_bk, SR.go_ct, SR.go_ite, SR.lp_nx, SR.lp_rt, SR.lp_bk, SR.lp_ct, SR.lp_ite, fin_nx, fin_rt, fin_ite, W.cb_bl, if_true, if_false, Bool.false_eq_true, eq_int, ne_int, eq_bl, ne_bl, mx2, mn2, int0, notW, truW, fdiv_ok, mod_ok, mul_okl, add_int, neg_int, int_bl, int_int, listLF_fl, listF_fl, listF_tup, listLF_tup, Int.reduceLT, Int.reduceLE, Int.reduceNeg, decide_true, decide_false, pad, lc, so])]
  rw [sq_nx (e := [some (flW d), some (flW cs), some (.fl (qs.map W.int)), some (.loc s.length), none, none, none]) (s := s ++ [.lst []]) (by simp only [bodyD, pad, sqS, ifS, orB, andB, notB, tb, bn, un, vr, kk, rtS, rnS, exS, orE, andE, chn, ifE, trB, passS, noS, setS, asgS, parS, axc, axn, flE, lsE, tupE, clE, mthE, mkE, lmE, forS, sqI, rg1, rg2, gSb, gFd, setFS, augFS, gNm, gTp, gsC, gsN, augS, augI, bkS, ctS, whS, slE, oxn, oxs, lpS, List.map_cons, List.map_nil, List.length_cons, List.length_nil, List.replicate, List.cons_append, List.nil_append, Nat.reduceAdd, Nat.reduceSub, List.getElem?_cons_succ, List.getElem?_cons_zero, List.set_cons_zero, List.set_cons_succ, R.toS_ok, R.bind_ok, R.toS_ite, R.bind_ite, SR.go_nx, SR.go_rt, SR.go_bk, SR.go_ct, SR.go_ite, SR.lp_nx, SR.lp_rt, SR.lp_bk, SR.lp_ct, SR.lp_ite, fin_nx, fin_rt, fin_ite, W.cb_bl, if_true, if_false, Bool.false_eq_true, eq_int, ne_int, eq_bl, ne_bl, mx2, mn2, int0, notW, truW, fdiv_ok, mod_ok, mul_okl, add_int, neg_int, int_bl, int_int, listLF_fl, listF_fl, listF_tup, listLF_tup, Int.reduceLT, Int.reduceLE, Int.reduceNeg, decide_true, decide_false])]
  rw [sq_nx (e := [some (flW d), some (flW cs), some (.fl (qs.map W.int)), some (.loc s.length), some (.int 0), none, none]) (s := s ++ [.lst []]) (by simp only [bodyD, pad, sqS, ifS, orB, andB, notB, tb, bn, un, vr, kk, rtS, rnS, exS, orE, andE, chn, ifE, trB, passS, noS, setS, asgS, parS, axc, axn, flE, lsE, tupE, clE, mthE, mkE, lmE, forS, sqI, rg1, rg2, gSb, gFd, setFS, augFS, gNm, gTp, gsC, gsN, augS, augI, bkS, ctS, whS, slE, oxn, oxs, lpS, List.map_cons, List.map_nil, List.length_cons, List.length_nil, List.replicate, List.cons_append, List.nil_append, Nat.reduceAdd, Nat.reduceSub, List.getElem?_cons_succ, List.getElem?_cons_zero, List.set_cons_zero, List.set_cons_succ, R.toS_ok, R.bind_ok, R.toS_ite, R.bind_ite, SR.go_nx, SR.go_rt, SR.go_bk, SR.go_ct, SR.go_ite, SR.lp_nx, SR.lp_rt, SR.lp_bk, SR.lp_ct, SR.lp_ite, fin_nx, fin_rt, fin_ite, W.cb_bl, if_true, if_false, Bool.false_eq_true, eq_int, ne_int, eq_bl, ne_bl, mx2, mn2, int0, notW, truW, fdiv_ok, mod_ok, mul_okl, add_int, neg_int, int_bl, int_int, listLF_fl, listF_fl, listF_tup, listLF_tup, Int.reduceLT, Int.reduceLE, Int.reduceNeg, decide_true, decide_false])]
  rw [sq_nx (e := [some (flW d), some (flW cs), some (.fl (qs.map W.int)), some (.loc s.length), some (.int (a' : Int)), o', none]) (s := s ++ [.lst (us.map flW)]) (by simp only [bodyD, pad, sqS, ifS, orB, andB, notB, tb, bn, un, vr, kk, rtS, rnS, exS, orE, andE, chn, ifE, trB, passS, noS, setS, asgS, parS, axc, axn, flE, lsE, tupE, clE, mthE, mkE, lmE, forS, sqI, rg1, rg2, gSb, gFd, setFS, augFS, gNm, gTp, gsC, gsN, augS, augI, bkS, ctS, whS, slE, oxn, oxs, lpS, List.map_cons, List.map_nil, List.length_cons, List.length_nil, List.replicate, List.cons_append, List.nil_append, Nat.reduceAdd, Nat.reduceSub, List.getElem?_cons_succ, List.getElem?_cons_zero, List.set_cons_zero, List.set_cons_succ, R.toS_ok, R.bind_ok, R.toS_ite, R.bind_ite, SR.go_nx, SR.go_rt, SR.go_bk, SR.go_ct, SR.go_ite, SR.lp_nx, SR.lp_rt, SR.lp_bk, SR.lp_ct, SR.lp_ite, fin_nx, fin_rt, fin_ite, W.cb_bl, if_true, if_false, Bool.false_eq_true, eq_int, ne_int, eq_bl, ne_bl, mx2, mn2, int0, notW, truW, fdiv_ok, mod_ok, mul_okl, add_int, neg_int, int_bl, int_int, listLF_fl, listF_fl, listF_tup, listLF_tup, Int.reduceLT, Int.reduceLE, Int.reduceNeg, decide_true, decide_false]; exact e)]
  rw [sq_nx (e := [some (flW d), some (flW cs), some (.fl (qs.map W.int)), some (.loc s.length), some (.int (a' : Int)), o', none]) (s := s ++ [.lst ((us ++ [d.drop a']).map flW)]) (by simp only [bodyD, pad, sqS, ifS, orB, andB, notB, tb, bn, un, vr, kk, rtS, rnS, exS, orE, andE, chn, ifE, trB, passS, noS, setS, asgS, parS, axc, axn, flE, lsE, tupE, clE, mthE, mkE, lmE, forS, sqI, rg1, rg2, gSb, gFd, setFS, augFS, gNm, gTp, gsC, gsN, augS, augI, bkS, ctS, whS, slE, oxn, oxs, lpS, List.map_cons, List.map_nil, List.length_cons, List.length_nil, List.replicate, List.cons_append, List.nil_append, Nat.reduceAdd, Nat.reduceSub, List.getElem?_cons_succ, List.getElem?_cons_zero, List.set_cons_zero, List.set_cons_succ, R.toS_ok, R.bind_ok, R.toS_ite, R.bind_ite, SR.go_nx, SR.go_rt, SR.go_bk, SR.go_ct, SR.go_ite, SR.lp_nx, SR.lp_rt, SR.lp_bk, SR.lp_ct, SR.lp_ite, fin_nx, fin_rt, fin_ite, W.cb_bl, if_true, if_false, Bool.false_eq_true, eq_int, ne_int, eq_bl, ne_bl, mx2, mn2, int0, notW, truW, fdiv_ok, mod_ok, mul_okl, add_int, neg_int, int_bl, int_int, listLF_fl, listF_fl, listF_tup, listLF_tup, Int.reduceLT, Int.reduceLE, Int.reduceNeg, decide_true, decide_false, sl2, lk, ap, e3])]
  simp only [bodyD, pad, sqS, ifS, orB, andB, notB, tb, bn, un, vr, kk, rtS, rnS, exS, orE, andE, chn, ifE, trB, passS, noS, setS, asgS, parS, axc, axn, flE, lsE, tupE, clE, mthE, mkE, lmE, forS, sqI, rg1, rg2, gSb, gFd, setFS, augFS, gNm, gTp, gsC, gsN, augS, augI, bkS, ctS, whS, slE, oxn, oxs, lpS, List.map_cons, List.map_nil, List.length_cons, List.length_nil, List.replicate, List.cons_append, List.nil_append, Nat.reduceAdd, Nat.reduceSub, List.getElem?_cons_succ, List.getElem?_cons_zero, List.set_cons_zero, List.set_cons_succ, R.toS_ok, R.bind_ok, R.toS_ite, R.bind_ite, SR.go_nx, SR.go_rt, SR.go_bk, SR.go_ct, SR.go_ite, SR.lp_nx, SR.lp_rt, SR.lp_bk, SR.lp_ct, SR.lp_ite, fin_nx, fin_rt, fin_ite, W.cb_bl, if_true, if_false, Bool.false_eq_true, eq_int, ne_int, eq_bl, ne_bl, mx2, mn2, int0, notW, truW, fdiv_ok, mod_ok, mul_okl, add_int, neg_int, int_bl, int_int, listLF_fl, listF_fl, listF_tup, listLF_tup, Int.reduceLT, Int.reduceLE, Int.reduceNeg, decide_true, decide_false]

def b__law_row_0 : Sx := (ifS (tb (bn geW (vr 3) (vr 2))) (sqS (exS (lmE appF (vr 5) (axc (bn modW (clE intF (axc (vr 3) axn)) (vr 2)) axn))) (setS 3 (bn fdivW (vr 3) (vr 2)))) (sqS (setS 4 (bn modW (clE intF (axc (bn addW (bn addW (bn mulW (vr 4) (kk (.int 48271))) (bn mulW (kk (.int 11)) (vr 6))) (kk (.int 7))) axn)) (kk (.int 2147483647)))) (exS (lmE appF (vr 5) (axc (bn modW (clE intF (axc (bn fdivW (bn mulW (vr 4) (kk (.int 2862933555777941757))) (kk (.int 1024))) axn)) (vr 2)) axn)))))
/-! _law_row -/
def r__law_row : List W → Sto → R W := bodyD 7 (sqS (setS 3 (clE absF (axc (clE intF (axc (vr 0) axn)) axn))) (sqS (setS 4 (bn addW (bn modW (clE intF (axc (vr 0) axn)) (kk (.int 1000003))) (kk (.int 1)))) (sqS (setS 5 (lsE axn)) (sqS (forS (rg1 (axc (vr 1) axn)) (gNm 6) b__law_row_0) (rtS (vr 5))))))
def rowF (b : Int) : Nat → Int → Int → Int → List Int
  | 0, _, _, _ => []
  | n + 1, k, rest, mixed => if b ≤ rest then rest % b :: rowF b n (k + 1) (rest / b) mixed
    else ((mixed * 48271 + 11 * k + 7) % 2147483647 * 2862933555777941757 / 1024) % b :: rowF b n (k + 1) rest ((mixed * 48271 + 11 * k + 7) % 2147483647)
def rowL (c : Int) (n : Nat) (b : Int) : List Int := rowF b n 0 (if c < 0 then -c else c) (c % 1000003 + 1)
theorem rowF_length (b : Int) : ∀ (n : Nat) (k rest mixed : Int), (rowF b n k rest mixed).length = n
  | 0, _, _, _ => rfl
  | n + 1, k, rest, mixed => by unfold rowF; split <;> simp [rowF_length b n]
theorem rowF_mem (b : Int) (hb : 0 < b) : ∀ (n : Nat) (k rest mixed : Int), ∀ x ∈ rowF b n k rest mixed, 0 ≤ x ∧ x < b
  | 0, _, _, _ => by intro x h; cases h
  | n + 1, k, rest, mixed => by
    intro x h
    unfold rowF at h
    split at h
    · rcases List.mem_cons.mp h with e | h
      · rw [e]; exact ⟨Int.emod_nonneg _ (by omega), Int.emod_lt_of_pos _ hb⟩
      · exact rowF_mem b hb n _ _ _ x h
    · rcases List.mem_cons.mp h with e | h
      · rw [e]; exact ⟨Int.emod_nonneg _ (by omega), Int.emod_lt_of_pos _ hb⟩
      · exact rowF_mem b hb n _ _ _ x h
theorem rowL_length (c : Int) (n : Nat) (b : Int) : (rowL c n b).length = n := rowF_length ..
theorem rowL_mem {c : Int} {n : Nat} {b : Int} (hb : 0 < b) : ∀ x ∈ rowL c n b, 0 ≤ x ∧ x < b := fun x h => rowF_mem b hb _ _ _ _ x h
theorem row_body (c cnt b k rest mixed : Int) (acc : List W) (x : Option W) (st : Sto) (hl : acc.length < 10000000) (hb : 0 < b) (hb2 : b < 1073741824) :
    b__law_row_0 [some (.int c), some (.int cnt), some (.int b), some (.int rest), some (.int mixed), some (.loc st.length), some (.int k)] (st ++ [.lst acc]) =
      if b ≤ rest then .nx [some (.int c), some (.int cnt), some (.int b), some (.int (rest / b)), some (.int mixed), some (.loc st.length), some (.int k)] (st ++ [.lst (acc ++ [.int (rest % b)])])
      else .nx [some (.int c), some (.int cnt), some (.int b), some (.int rest), some (.int ((mixed * 48271 + 11 * k + 7) % 2147483647)), some (.loc st.length), some (.int k)] (st ++ [.lst (acc ++ [.int (((mixed * 48271 + 11 * k + 7) % 2147483647 * 2862933555777941757 / 1024) % b)])]) := by
  unfold b__law_row_0
  simp [bodyD, pad, sqS, ifS, orB, andB, notB, tb, bn, un, addW, mulW, negW, notW, mulOk, int0, intW, vr, kk, rtS, rnS, exS, orE, andE, chn, ifE, trB, truW, lstOf, seqOf, lstK, passS, noS, setS, asgS, parS, axc, axn, flE, lsE, tupE, clE, mthE, mkE, isIns, fldW, setFS, augFS, setFd, gFd, gNm, gTp, gsC, gsN, augS, lenF, absF, intF, allF, anyF, sumF, maxF, minF, listF, listLF, tupF, isiW, tyOf, Ty.le, ixW, lmE, appF, extF, popF, flatW, veqW, inW, ninW, forS, sqI, lpS, forL, rg1, rg2, slE, slF, slLF, oxn, oxs, inT, getT, isnW, nonW, isbW, nibW, idxF, firstI, gSb, setI, ixN, bkS, ctS, whS, eq_int, ne_int, eq_bl, ne_bl, atI_l0, atI_l1, atI_l2, atI_l3, intsOf_map, blsOf_map, intsOf_mapf, blsOf_mapf, intsOf_mapc, blsOf_mapc, lstK]
  simp [hl, hb, hb2]
theorem row_loop (c cnt b : Int) (st : Sto) (hb : 0 < b) (hb2 : b < 1073741824) : ∀ (m : Nat) (k rest mixed : Int) (acc : List W) (x : Option W), acc.length + m < 10000000 →
    ∃ e, forL (gNm 6) b__law_row_0 (rngL k m) [some (.int c), some (.int cnt), some (.int b), some (.int rest), some (.int mixed), some (.loc st.length), x] (st ++ [.lst acc]) =
        .nx e (st ++ [.lst (acc ++ (rowF b m k rest mixed).map W.int)]) ∧ e[5]? = some (some (.loc st.length)) := by
  intro m
  induction m with
  | zero => intro k rest mixed acc x _; exact ⟨_, by simp [rngL_zero, forL, rowF]; rfl, rfl⟩
  | succ m ih =>
    intro k rest mixed acc x hl
    rw [rngL_succ]
    unfold forL rowF
    simp only [gNm, R.toS_ok, lpS, List.set_cons_succ, List.set_cons_zero]
    rw [row_body c cnt b k rest mixed acc x st (by omega) hb hb2]
    split
    · obtain ⟨e, h1, h2⟩ := ih (k + 1) (rest / b) mixed (acc ++ [.int (rest % b)]) (some (.int k)) (by simp; omega)
      exact ⟨e, by simp only [SR.lp_nx]; rw [h1]; simp, h2⟩
    · obtain ⟨e, h1, h2⟩ := ih (k + 1) rest ((mixed * 48271 + 11 * k + 7) % 2147483647) (acc ++ [.int (((mixed * 48271 + 11 * k + 7) % 2147483647 * 2862933555777941757 / 1024) % b)]) (some (.int k)) (by simp; omega)
      exact ⟨e, by simp only [SR.lp_nx]; rw [h1]; simp, h2⟩
theorem row_den (c : Int) (n : Nat) (b : Int) (st : Sto) (hn : n ≤ 1000000) (hb : 0 < b) (hb2 : b < 1073741824) : r__law_row [.int c, .int n, .int b] st = .ok (.loc st.length) (st ++ [.lst ((rowL c n b).map W.int)]) := by
  unfold r__law_row
  simp [bodyD, pad, sqS, ifS, orB, andB, notB, tb, bn, un, addW, mulW, negW, notW, mulOk, int0, intW, vr, kk, rtS, rnS, exS, orE, andE, chn, ifE, trB, truW, lstOf, seqOf, lstK, passS, noS, setS, asgS, parS, axc, axn, flE, lsE, tupE, clE, mthE, mkE, isIns, fldW, setFS, augFS, setFd, gFd, gNm, gTp, gsC, gsN, augS, lenF, absF, intF, allF, anyF, sumF, maxF, minF, listF, listLF, tupF, isiW, tyOf, Ty.le, ixW, lmE, appF, extF, popF, flatW, veqW, inW, ninW, forS, sqI, lpS, forL, rg1, rg2, slE, slF, slLF, oxn, oxs, inT, getT, isnW, nonW, isbW, nibW, idxF, firstI, gSb, setI, ixN, bkS, ctS, whS, eq_int, ne_int, eq_bl, ne_bl, atI_l0, atI_l1, atI_l2, atI_l3, intsOf_map, blsOf_map, intsOf_mapf, blsOf_mapf, intsOf_mapc, blsOf_mapc, lstK]
  obtain ⟨e, h1, h2⟩ := row_loop c n b st hb hb2 n 0 (if c < 0 then -c else c) (c % 1000003 + 1) [] none (by simp; omega)
  simp only [List.nil_append] at h1
  rw [if_pos (smI_small (by omega) (by omega)), h1]
  simp [rtS, vr, h2, rowL]
def d__law_row (ws : List W) (st : Sto) : R W := match ws with
  | [.int c, .int n, .int b] => if ck (0 ≤ n ∧ n ≤ 1000000 ∧ 0 < b ∧ b < 1073741824) = true then .ok (.fl ((rowL c n.toNat b).map W.int)) st else .no
  | _ => .no
theorem gz__law_row : Gz 3 r__law_row d__law_row := by
  refine Gz.pure (fun ws st w st' hl hw e => ?_) (fun ws st c s e => ?_)
  · unfold d__law_row at e
    split at e
    · rename_i c n b
      split at e
      · rename_i h
        rw [ck_iff] at h
        obtain ⟨h1, h2, h3, h4⟩ := h
        cases e
        obtain ⟨m, rfl⟩ := Int.eq_ofNat_of_zero_le h1
        exact ⟨rfl, _, _, 2, row_den c m b st (by omega) h3 h4, fz_ints⟩
      · cases e
    · cases e
  · unfold d__law_row at e
    split at e
    · split at e <;> cases e
    · cases e
theorem rowd (c : Int) (n : Int) (b : Int) (st : Sto) (h0 : 0 ≤ n) (hn : n ≤ 1000000) (hb : 0 < b) (hb2 : b < 1073741824) : d__law_row [.int c, .int n, .int b] st = .ok (.fl ((rowL c n.toNat b).map W.int)) st := by
  exact if_pos (ck_iff.mpr ⟨h0, hn, hb, hb2⟩)

/-! _law_digits -/
def r__law_digits : List W → Sto → R W := bodyD 2 (rtS (lcE [1] (chI (clE strF (axc (vr 0) axn))) (ct1 1) yesB (clE ordF (axc (vr 1) axn))))
abbrev d__law_digits : List W → Sto → R W := r__law_digits
/-! ### bytes, however many -/
def BL (n : Nat) (m : Ex) (env : En) (s : Sto) : Prop := ∃ xs : List Int, m env s = .ok (.fl (xs.map W.int)) s ∧ xs.length ≤ n
def RL (n : Nat) (m : Sx) (env : En) (s : Sto) : Prop := ∃ xs : List Int, m env s = .rt (.fl (xs.map W.int)) s ∧ xs.length ≤ n
theorem BL.add {a b n : Nat} {m1 m2 : Ex} {env : En} {s : Sto} (h1 : BL a m1 env s) (h2 : BL b m2 env s) (h : a + b ≤ n) (hn : n ≤ 10000000) : BL n (bn addW m1 m2) env s := by
  obtain ⟨xs, e1, l1⟩ := h1
  obtain ⟨ys, e2, l2⟩ := h2
  refine ⟨xs ++ ys, ?_, by rw [List.length_append]; omega⟩
  unfold bn
  rw [e1, R.bind_ok, e2, R.bind_ok]
  unfold addW
  simp only [lstOf, List.length_map]
  rw [if_pos (ck_iff.mpr (by omega)), List.map_append]
theorem flat_len (xs : List Int) : ∀ j : Nat, ((List.replicate j xs).flatten).length = j * xs.length
  | 0 => by simp
  | j + 1 => by rw [List.replicate_succ, List.flatten_cons, List.length_append, flat_len xs j, Nat.succ_mul, Nat.add_comm]
theorem BL.mul {a n : Nat} {k : Int} {m1 m2 : Ex} {env : En} {s : Sto} (h1 : BL a m1 env s) (h2 : m2 env s = .ok (.int k) s) (h0 : 0 ≤ k) (h3 : k ≤ 10) (h : a * 10 ≤ n) (hn : n ≤ 1000000) : BL n (bn mulW m1 m2) env s := by
  obtain ⟨xs, e1, l1⟩ := h1
  obtain ⟨j, rfl⟩ := Int.eq_ofNat_of_zero_le h0
  have hj : xs.length * j ≤ a * 10 := Nat.mul_le_mul l1 (by omega)
  refine ⟨(List.replicate j xs).flatten, ?_, ?_⟩
  · unfold bn
    rw [e1, R.bind_ok, h2, R.bind_ok]
    unfold mulW
    simp only [lstOf, List.length_map, Int.toNat_natCast]
    rw [if_pos (ck_iff.mpr ⟨by omega, by omega, by omega⟩)]
    congr 2
    rw [List.map_flatten, List.map_replicate]
  · rw [flat_len, Nat.mul_comm]
    omega
theorem BL.one {n : Nat} {k : Int} {m : Ex} {env : En} {s : Sto} (h : m env s = .ok (.int k) s) (hn : 1 ≤ n) : BL n (flE (axc m axn)) env s := ⟨[k], by unfold flE axc axn; simp only [h, R.bind_ok]; rfl, by simpa using hn⟩
theorem RL.rt {n : Nat} {m : Ex} {env : En} {s : Sto} (h : BL n m env s) : RL n (rtS m) env s := by
  obtain ⟨xs, e, l⟩ := h
  exact ⟨xs, by unfold rtS; rw [e]; rfl, l⟩
theorem RL.br {n : Nat} {c : Bx} {a r : Sx} {env : En} {s : Sto} (hc : ∃ b, c env s = .ok b s) (ha : RL n a env s) (hr : RL n r env s) : RL n (sqS (ifS c a passS) r) env s := by
  obtain ⟨b, hc⟩ := hc
  obtain ⟨xs, e, l⟩ := ha
  obtain ⟨ys, e2, l2⟩ := hr
  cases b with
  | true => exact ⟨xs, by unfold sqS ifS; rw [hc]; simp only [R.toS_ok, if_true, e]; rfl, l⟩
  | false => exact ⟨ys, by unfold sqS ifS; rw [hc]; simp only [R.toS_ok, if_false, Bool.false_eq_true, passS, SR.go_nx, e2], l2⟩
theorem RL.nx {n : Nat} {a r : Sx} {env e : En} {s : Sto} (h : a env s = .nx e s) (hr : RL n r e s) : RL n (sqS a r) env s := by
  obtain ⟨xs, q, l⟩ := hr
  exact ⟨xs, by rw [sq_nx h]; exact q, l⟩
theorem RL.body {n N : Nat} {m : Sx} {ws : List W} {s : Sto} (h : RL n m (pad N ws) s) : ∃ xs : List Int, bodyD N m ws s = .ok (.fl (xs.map W.int)) s ∧ xs.length ≤ n := by
  obtain ⟨xs, e, l⟩ := h
  exact ⟨xs, body_of e, l⟩
theorem log_small {n : Int} (h0 : 0 ≤ n) (h1 : n < 4096) : n.natAbs.log2 < 1920 := by
  by_cases z : n.natAbs = 0
  · rw [z]; decide
  · have : n.natAbs.log2 < 12 := (Nat.log2_lt z).mpr (by omega)
    omega
theorem digits_den {n : Int} (h0 : 0 ≤ n) (h1 : n < 4096) (s : Sto) : ∃ xs : List Int, r__law_digits [.int n] s = .ok (.fl (xs.map W.int)) s ∧ xs.length ≤ 1921 := by
  have hl := log_small h0 h1
  have hs := PyProof.Rows.int_text_len_1921 hl
  have e0 : strF [.int n] s = .ok (.str (toString n)) s := by
    unfold strF
    simp only [ck_iff.mpr hl, if_true]
  generalize hx : (PySem.Str.ofString (toString n)) = x at *
  have hs : x.cps.size ≤ 1921 := hs
  refine ⟨x.cps.toList.map fun c => ((c : Nat) : Int), ?_, by rw [List.length_map]; simpa using hs⟩
  unfold r__law_digits
  refine body_of ?_
  unfold rtS
  rw [lcE_src (ws := x.cps.toList.map fun c => W.str ⟨#[c]⟩) (st := s) (ys := x.cps.toList.map fun c => W.int ((c : Nat) : Int)) ?_ (by rw [List.length_map, Array.length_toList]; omega) ?_]
  · rw [List.map_map]; rfl
  · unfold chI
    simp only [bodyD, pad, sqS, ifS, orB, andB, notB, tb, bn, un, vr, kk, rtS, rnS, exS, orE, andE, chn, ifE, trB, passS, noS, setS, asgS, parS, axc, axn, flE, lsE, tupE, clE, mthE, mkE, lmE, forS, sqI, rg1, rg2, gSb, gFd, setFS, augFS, gNm, gTp, gsC, gsN, augS, augI, bkS, ctS, whS, slE, oxn, oxs, lpS, List.map_cons, List.map_nil, List.length_cons, List.length_nil, List.replicate, List.cons_append, List.nil_append, Nat.reduceAdd, Nat.reduceSub, List.getElem?_cons_succ, List.getElem?_cons_zero, List.set_cons_zero, List.set_cons_succ, R.toS_ok, R.bind_ok, R.toS_ite, R.bind_ite, SR.go_nx, SR.go_rt, SR.go_bk, SR.go_ct, SR.go_ite, SR.lp_nx, SR.lp_rt, SR.lp_bk, SR.lp_ct, SR.lp_ite, fin_nx, fin_rt, fin_ite, W.cb_bl, if_true, if_false, Bool.false_eq_true, eq_int, ne_int, eq_bl, ne_bl, mx2, mn2, int0, notW, truW, fdiv_ok, mod_ok, mul_okl, add_int, neg_int, int_bl, int_int, listLF_fl, listF_fl, listF_tup, listLF_tup, Int.reduceLT, Int.reduceLE, Int.reduceNeg, decide_true, decide_false, pad, e0]
  · refine lcL_map1 (enc := fun c => W.str ⟨#[c]⟩) (f := fun c => W.int ((c : Nat) : Int)) _ fun c _ => ⟨_, rfl, ?_⟩
    have e1 : ∀ s, ordF [.str ⟨#[c]⟩] s = .ok (.int ((c : Nat) : Int)) s := fun s => by
      unfold ordF
      have : ck (Str.length ⟨#[c]⟩ = 1) = true := ck_iff.mpr rfl
      simp only [this, if_true]
      rfl
    simp only [bodyD, pad, sqS, ifS, orB, andB, notB, tb, bn, un, vr, kk, rtS, rnS, exS, orE, andE, chn, ifE, trB, passS, noS, setS, asgS, parS, axc, axn, flE, lsE, tupE, clE, mthE, mkE, lmE, forS, sqI, rg1, rg2, gSb, gFd, setFS, augFS, gNm, gTp, gsC, gsN, augS, augI, bkS, ctS, whS, slE, oxn, oxs, lpS, List.map_cons, List.map_nil, List.length_cons, List.length_nil, List.replicate, List.cons_append, List.nil_append, Nat.reduceAdd, Nat.reduceSub, List.getElem?_cons_succ, List.getElem?_cons_zero, List.set_cons_zero, List.set_cons_succ, R.toS_ok, R.bind_ok, R.toS_ite, R.bind_ite, SR.go_nx, SR.go_rt, SR.go_bk, SR.go_ct, SR.go_ite, SR.lp_nx, SR.lp_rt, SR.lp_bk, SR.lp_ct, SR.lp_ite, fin_nx, fin_rt, fin_ite, W.cb_bl, if_true, if_false, Bool.false_eq_true, eq_int, ne_int, eq_bl, ne_bl, mx2, mn2, int0, notW, truW, fdiv_ok, mod_ok, mul_okl, add_int, neg_int, int_bl, int_int, listLF_fl, listF_fl, listF_tup, listLF_tup, Int.reduceLT, Int.reduceLE, Int.reduceNeg, decide_true, decide_false, pad, wipeE, e1]
theorem BL.dig {m : Ex} {n : Int} {k : Nat} {env : En} {s : Sto} (h : m env s = .ok (.int n) s) (h0 : 0 ≤ n) (h1 : n < 4096) (hk : 1921 ≤ k) : BL k (clE d__law_digits (axc m axn)) env s := by
  obtain ⟨xs, e, l⟩ := digits_den h0 h1 s
  refine ⟨xs, ?_, by omega⟩
  unfold clE axc axn
  simp only [h, R.bind_ok]
  exact e

/-! _law_sequence -/
def r__law_sequence : List W → Sto → R W := bodyD 4 (sqS (setS 3 (bn addW (flE (axc (kk (.int 27)) (axc (kk (.int 91)) axn))) (clE d__law_digits (axc (bn modW (vr 0) (vr 2)) axn)))) (sqS (ifS (tb (bn eqW (bn modW (bn fdivW (vr 0) (vr 2)) (kk (.int 3))) (kk (.int 0)))) (setS 3 (bn addW (bn addW (vr 3) (flE (axc (kk (.int 59)) axn))) (clE d__law_digits (axc (bn modW (bn fdivW (vr 0) (kk (.int 64))) (vr 2)) axn)))) passS) (sqS (ifS (tb (bn eqW (bn modW (bn fdivW (vr 0) (kk (.int 4096))) (kk (.int 7))) (kk (.int 0)))) (setS 3 (flE (axc (kk (.int 27)) (axc (kk (.int 91)) axn)))) passS) (rtS (bn addW (vr 3) (flE (axc (bn ixW (vr 1) (bn modW (bn fdivW (vr 0) (kk (.int 256))) (clE lenF (axc (vr 1) axn)))) axn)))))))
abbrev d__law_sequence : List W → Sto → R W := r__law_sequence
theorem RL.opt {n : Nat} {c : Bx} {m : Ex} {r : Sx} {a b : Nat} {k : Nat} {env : En} {s : Sto} {old : List Int} (hc : ∃ b, c env s = .ok b s) (h1 : BL a m env s) (ho : old.length ≤ b) (hab : b ≤ a) (he : env[k]? = some (some (.fl (old.map W.int))))
    (hr : ∀ xs : List Int, xs.length ≤ a → RL n r (env.set k (some (.fl (xs.map W.int)))) s) : RL n (sqS (ifS c (setS k m) passS) r) env s := by
  obtain ⟨b', hc⟩ := hc
  obtain ⟨xs, e, l⟩ := h1
  cases b' with
  | true => exact RL.nx (e := env.set k (some (.fl (xs.map W.int)))) (by unfold ifS setS; rw [hc]; simp only [R.toS_ok, if_true, e]) (hr xs l)
  | false =>
    have q := hr old (by omega)
    rw [set_same he] at q
    exact RL.nx (e := env) (by unfold ifS passS; rw [hc]; simp only [R.toS_ok, if_false, Bool.false_eq_true]) q
theorem BL.var {n k : Nat} {env : En} {s : Sto} {xs : List Int} (h : env[k]? = some (some (.fl (xs.map W.int)))) (hl : xs.length ≤ n) : BL n (vr k) env s := ⟨xs, by unfold vr; rw [h], hl⟩
theorem BL.two {n : Nat} {a b : Int} {m1 m2 : Ex} {env : En} {s : Sto} (h1 : m1 env s = .ok (.int a) s) (h2 : m2 env s = .ok (.int b) s) (hn : 2 ≤ n) : BL n (flE (axc m1 (axc m2 axn))) env s := ⟨[a, b], by unfold flE axc axn; simp only [h1, h2, R.bind_ok]; rfl, by simpa using hn⟩
theorem sequence_den {x most : Int} {fs : List Int} (hm : 0 < most) (hm2 : most ≤ 4000) (hf : fs ≠ []) (hl : fs.length ≤ 100) (s : Sto) : ∃ xs : List Int, r__law_sequence [.int x, .fl (fs.map W.int), .int most] s = .ok (.fl (xs.map W.int)) s ∧ xs.length ≤ 3850 := by
  have fp : 0 < fs.length := List.length_pos_iff.mpr hf
  have hm3 : most < 1073741824 := by omega
  have m1 : ∀ y s, modW (.int y) (.int most) s = .ok (.int (y % most)) s := fun y s => mod_ok hm
  have f1 : ∀ y s, fdivW (.int y) (.int most) s = .ok (.int (y / most)) s := fun y s => fdiv_ok hm hm3
  have r0 : ∀ y : Int, 0 ≤ y % most := fun y => Int.emod_nonneg _ (by omega)
  have r1 : ∀ y : Int, y % most < 4096 := fun y => by have := Int.emod_lt_of_pos y hm; omega
  unfold r__law_sequence
  refine RL.body ?_
  obtain ⟨xs, e, l⟩ : BL 1923 (bn addW (flE (axc (kk (.int 27)) (axc (kk (.int 91)) axn))) (clE d__law_digits (axc (bn modW (vr 0) (vr 2)) axn))) (pad 4 [.int x, .fl (fs.map W.int), .int most]) s :=
    BL.add (a := 2) (b := 1921) (BL.two rfl rfl (by decide)) (BL.dig (n := x % most) (by simp only [bodyD, pad, sqS, ifS, orB, andB, notB, tb, bn, un, vr, kk, rtS, rnS, exS, orE, andE, chn, ifE, trB, passS, noS, setS, asgS, parS, axc, axn, flE, lsE, tupE, clE, mthE, mkE, lmE, forS, sqI, rg1, rg2, gSb, gFd, setFS, augFS, gNm, gTp, gsC, gsN, augS, augI, bkS, ctS, whS, slE, oxn, oxs, lpS, List.map_cons, List.map_nil, List.length_cons, List.length_nil, List.replicate, List.cons_append, List.nil_append, Nat.reduceAdd, Nat.reduceSub, List.getElem?_cons_succ, List.getElem?_cons_zero, List.set_cons_zero, List.set_cons_succ, R.toS_ok, R.bind_ok, R.toS_ite, R.bind_ite, SR.go_nx, SR.go_rt, SR.go_bk, SR.go_ct, SR.go_ite, SR.lp_nx, SR.lp_rt, SR.lp_bk, SR.lp_ct, SR.lp_ite, fin_nx, fin_rt, fin_ite, W.cb_bl, if_true, if_false, Bool.false_eq_true, eq_int, ne_int, eq_bl, ne_bl, mx2, mn2, int0, notW, truW, fdiv_ok, mod_ok, mul_okl, add_int, neg_int, int_bl, int_int, listLF_fl, listF_fl, listF_tup, listLF_tup, Int.reduceLT, Int.reduceLE, Int.reduceNeg, decide_true, decide_false, pad, m1]) (r0 _) (r1 _) (by decide)) (by decide) (by decide)
  refine RL.nx (e := [some (.int x), some (.fl (fs.map W.int)), some (.int most), some (.fl (xs.map W.int))]) (by unfold setS; rw [e]; rfl) ?_
  refine RL.opt (a := 3845) (b := 1923) (old := xs) (by simp only [bodyD, pad, sqS, ifS, orB, andB, notB, tb, bn, un, vr, kk, rtS, rnS, exS, orE, andE, chn, ifE, trB, passS, noS, setS, asgS, parS, axc, axn, flE, lsE, tupE, clE, mthE, mkE, lmE, forS, sqI, rg1, rg2, gSb, gFd, setFS, augFS, gNm, gTp, gsC, gsN, augS, augI, bkS, ctS, whS, slE, oxn, oxs, lpS, List.map_cons, List.map_nil, List.length_cons, List.length_nil, List.replicate, List.cons_append, List.nil_append, Nat.reduceAdd, Nat.reduceSub, List.getElem?_cons_succ, List.getElem?_cons_zero, List.set_cons_zero, List.set_cons_succ, R.toS_ok, R.bind_ok, R.toS_ite, R.bind_ite, SR.go_nx, SR.go_rt, SR.go_bk, SR.go_ct, SR.go_ite, SR.lp_nx, SR.lp_rt, SR.lp_bk, SR.lp_ct, SR.lp_ite, fin_nx, fin_rt, fin_ite, W.cb_bl, if_true, if_false, Bool.false_eq_true, eq_int, ne_int, eq_bl, ne_bl, mx2, mn2, int0, notW, truW, fdiv_ok, mod_ok, mul_okl, add_int, neg_int, int_bl, int_int, listLF_fl, listF_fl, listF_tup, listLF_tup, Int.reduceLT, Int.reduceLE, Int.reduceNeg, decide_true, decide_false, f1]; exact ⟨_, rfl⟩) ?_ l (by decide) rfl fun ys hy => ?_
  · refine BL.add (a := 1924) (b := 1921) (BL.add (a := 1923) (b := 1) (BL.var rfl l) (BL.one rfl (by decide)) (by decide) (by decide)) (BL.dig (n := x / 64 % most) (by simp only [bodyD, pad, sqS, ifS, orB, andB, notB, tb, bn, un, vr, kk, rtS, rnS, exS, orE, andE, chn, ifE, trB, passS, noS, setS, asgS, parS, axc, axn, flE, lsE, tupE, clE, mthE, mkE, lmE, forS, sqI, rg1, rg2, gSb, gFd, setFS, augFS, gNm, gTp, gsC, gsN, augS, augI, bkS, ctS, whS, slE, oxn, oxs, lpS, List.map_cons, List.map_nil, List.length_cons, List.length_nil, List.replicate, List.cons_append, List.nil_append, Nat.reduceAdd, Nat.reduceSub, List.getElem?_cons_succ, List.getElem?_cons_zero, List.set_cons_zero, List.set_cons_succ, R.toS_ok, R.bind_ok, R.toS_ite, R.bind_ite, SR.go_nx, SR.go_rt, SR.go_bk, SR.go_ct, SR.go_ite, SR.lp_nx, SR.lp_rt, SR.lp_bk, SR.lp_ct, SR.lp_ite, fin_nx, fin_rt, fin_ite, W.cb_bl, if_true, if_false, Bool.false_eq_true, eq_int, ne_int, eq_bl, ne_bl, mx2, mn2, int0, notW, truW, fdiv_ok, mod_ok, mul_okl, add_int, neg_int, int_bl, int_int, listLF_fl, listF_fl, listF_tup, listLF_tup, Int.reduceLT, Int.reduceLE, Int.reduceNeg, decide_true, decide_false, m1]) (r0 _) (r1 _) (by decide)) (by decide) (by decide)
  simp only [List.set_cons_succ, List.set_cons_zero]
  refine RL.opt (a := 3845) (b := 3845) (old := ys) (by simp only [bodyD, pad, sqS, ifS, orB, andB, notB, tb, bn, un, vr, kk, rtS, rnS, exS, orE, andE, chn, ifE, trB, passS, noS, setS, asgS, parS, axc, axn, flE, lsE, tupE, clE, mthE, mkE, lmE, forS, sqI, rg1, rg2, gSb, gFd, setFS, augFS, gNm, gTp, gsC, gsN, augS, augI, bkS, ctS, whS, slE, oxn, oxs, lpS, List.map_cons, List.map_nil, List.length_cons, List.length_nil, List.replicate, List.cons_append, List.nil_append, Nat.reduceAdd, Nat.reduceSub, List.getElem?_cons_succ, List.getElem?_cons_zero, List.set_cons_zero, List.set_cons_succ, R.toS_ok, R.bind_ok, R.toS_ite, R.bind_ite, SR.go_nx, SR.go_rt, SR.go_bk, SR.go_ct, SR.go_ite, SR.lp_nx, SR.lp_rt, SR.lp_bk, SR.lp_ct, SR.lp_ite, fin_nx, fin_rt, fin_ite, W.cb_bl, if_true, if_false, Bool.false_eq_true, eq_int, ne_int, eq_bl, ne_bl, mx2, mn2, int0, notW, truW, fdiv_ok, mod_ok, mul_okl, add_int, neg_int, int_bl, int_int, listLF_fl, listF_fl, listF_tup, listLF_tup, Int.reduceLT, Int.reduceLE, Int.reduceNeg, decide_true, decide_false]; exact ⟨_, rfl⟩) (BL.two rfl rfl (by decide)) hy (by decide) rfl fun zs hz => ?_
  simp only [List.set_cons_succ, List.set_cons_zero]
  refine RL.rt (BL.add (a := 3845) (b := 1) (BL.var rfl hz) (BL.one (k := fs.getD (x / 256 % fs.length).toNat 0) ?_ (by decide)) (by decide) (by decide))
  have ln : ∀ s, lenF [.fl (fs.map W.int)] s = .ok (.int (fs.length : Int)) s := fun s => by simp [lenF, seqOf, lstOf]
  have h0 := Int.emod_nonneg (x / 256) (show (fs.length : Int) ≠ 0 by omega)
  have h1 := Int.emod_lt_of_pos (x / 256) (show (0 : Int) < fs.length by omega)
  have md : ∀ s, modW (.int (x / 256)) (.int (fs.length : Int)) s = .ok (.int (x / 256 % fs.length)) s := fun s => mod_ok (by omega)
  have ix : ∀ s, ixW (.fl (fs.map W.int)) (.int (x / 256 % fs.length)) s = .ok (.int (fs.getD (x / 256 % fs.length).toNat 0)) s := fun s => by
    have := atI_getD W.int fs 0 (i := (x / 256 % fs.length).toNat) (by omega)
    rw [Int.toNat_of_nonneg h0] at this
    exact ixW_lst (seqOf_fl ..) this
  simp only [bodyD, pad, sqS, ifS, orB, andB, notB, tb, bn, un, vr, kk, rtS, rnS, exS, orE, andE, chn, ifE, trB, passS, noS, setS, asgS, parS, axc, axn, flE, lsE, tupE, clE, mthE, mkE, lmE, forS, sqI, rg1, rg2, gSb, gFd, setFS, augFS, gNm, gTp, gsC, gsN, augS, augI, bkS, ctS, whS, slE, oxn, oxs, lpS, List.map_cons, List.map_nil, List.length_cons, List.length_nil, List.replicate, List.cons_append, List.nil_append, Nat.reduceAdd, Nat.reduceSub, List.getElem?_cons_succ, List.getElem?_cons_zero, List.set_cons_zero, List.set_cons_succ, R.toS_ok, R.bind_ok, R.toS_ite, R.bind_ite, SR.go_nx, SR.go_rt, SR.go_bk, SR.go_ct, SR.go_ite, SR.lp_nx, SR.lp_rt, SR.lp_bk, SR.lp_ct, SR.lp_ite, fin_nx, fin_rt, fin_ite, W.cb_bl, if_true, if_false, Bool.false_eq_true, eq_int, ne_int, eq_bl, ne_bl, mx2, mn2, int0, notW, truW, fdiv_ok, mod_ok, mul_okl, add_int, neg_int, int_bl, int_int, listLF_fl, listF_fl, listF_tup, listLF_tup, Int.reduceLT, Int.reduceLE, Int.reduceNeg, decide_true, decide_false, ln, md, ix]

/-! _law_utf8 -/
def r__law_utf8 : List W → Sto → R W := bodyD 1 (sqS (ifS (tb (bn ltW (vr 0) (kk (.int 128)))) (rtS (flE (axc (vr 0) axn))) passS) (sqS (ifS (tb (bn ltW (vr 0) (kk (.int 2048)))) (rtS (flE (axc (bn addW (kk (.int 192)) (bn fdivW (vr 0) (kk (.int 64)))) (axc (bn addW (kk (.int 128)) (bn modW (vr 0) (kk (.int 64)))) axn)))) passS) (sqS (ifS (tb (bn ltW (vr 0) (kk (.int 65536)))) (rtS (flE (axc (bn addW (kk (.int 224)) (bn fdivW (vr 0) (kk (.int 4096)))) (axc (bn addW (kk (.int 128)) (bn modW (bn fdivW (vr 0) (kk (.int 64))) (kk (.int 64)))) (axc (bn addW (kk (.int 128)) (bn modW (vr 0) (kk (.int 64)))) axn))))) passS) (rtS (flE (axc (bn addW (kk (.int 240)) (bn fdivW (vr 0) (kk (.int 262144)))) (axc (bn addW (kk (.int 128)) (bn modW (bn fdivW (vr 0) (kk (.int 4096))) (kk (.int 64)))) (axc (bn addW (kk (.int 128)) (bn modW (bn fdivW (vr 0) (kk (.int 64))) (kk (.int 64)))) (axc (bn addW (kk (.int 128)) (bn modW (vr 0) (kk (.int 64)))) axn)))))))))
abbrev d__law_utf8 : List W → Sto → R W := r__law_utf8
def lawUtf8 (p : Int) : List Int := if p < 128 then [p] else if p < 2048 then [192 + p / 64, 128 + p % 64] else if p < 65536 then [224 + p / 4096, 128 + p / 64 % 64, 128 + p % 64]
  else [240 + p / 262144, 128 + p / 4096 % 64, 128 + p / 64 % 64, 128 + p % 64]
theorem lawutf8_den (p : Int) (st : Sto) : r__law_utf8 [.int p] st = .ok (.fl ((lawUtf8 p).map W.int)) st := by
  unfold r__law_utf8 lawUtf8
  simp [bodyD, pad, sqS, ifS, orB, andB, notB, tb, bn, un, addW, mulW, negW, notW, mulOk, int0, intW, vr, kk, rtS, rnS, exS, orE, andE, chn, ifE, trB, truW, lstOf, seqOf, lstK, passS, noS, setS, asgS, parS, axc, axn, flE, lsE, tupE, clE, mthE, mkE, isIns, fldW, setFS, augFS, setFd, gFd, gNm, gTp, gsC, gsN, augS, lenF, absF, intF, allF, anyF, sumF, maxF, minF, listF, listLF, tupF, isiW, tyOf, Ty.le, ixW, lmE, appF, extF, popF, flatW, veqW, inW, ninW, forS, sqI, lpS, forL, rg1, rg2, slE, slF, slLF, oxn, oxs, inT, getT, isnW, nonW, isbW, nibW, idxF, firstI, gSb, setI, ixN, bkS, ctS, whS, eq_int, ne_int, eq_bl, ne_bl, atI_l0, atI_l1, atI_l2, atI_l3, intsOf_map, blsOf_map, intsOf_mapf, blsOf_mapf, intsOf_mapc, blsOf_mapc, lstK]
  repeat' split
  all_goals rfl

/-! _law_token -/
def r__law_token : List W → Sto → R W := bodyD 7 (sqS (setS 2 (flE (axc (kk (.int 65)) (axc (kk (.int 66)) (axc (kk (.int 67)) (axc (kk (.int 68)) (axc (kk (.int 69)) (axc (kk (.int 70)) (axc (kk (.int 71)) (axc (kk (.int 72)) (axc (kk (.int 73)) (axc (kk (.int 90)) (axc (kk (.int 100)) (axc (kk (.int 102)) axn)))))))))))))) (sqS (setS 3 (flE (axc (kk (.int 64)) (axc (kk (.int 74)) (axc (kk (.int 75)) (axc (kk (.int 76)) (axc (kk (.int 77)) (axc (kk (.int 80)) (axc (kk (.int 88)) axn))))))))) (sqS (setS 4 (flE (axc (kk (.int 76)) (axc (kk (.int 77)) (axc (kk (.int 83)) (axc (kk (.int 84)) (axc (kk (.int 114)) (axc (kk (.int 114)) axn)))))))) (sqS (setS 5 (flE (axc (kk (.int 99)) (axc (kk (.int 103)) (axc (kk (.int 110)) (axc (kk (.int 110)) (axc (kk (.int 115)) (axc (kk (.int 117)) (axc (kk (.int 104)) (axc (kk (.int 108)) (axc (kk (.int 105)) axn))))))))))) (sqS (ifS (tb (bn ltW (vr 0) (kk (.int 5)))) (rtS (bn mulW (flE (axc (bn addW (kk (.int 97)) (bn modW (vr 1) (kk (.int 26)))) axn)) (bn addW (kk (.int 1)) (bn modW (bn fdivW (vr 1) (kk (.int 26))) (kk (.int 4)))))) passS) (sqS (ifS (tb (bn eqW (vr 0) (kk (.int 5)))) (rtS (clE d__law_utf8 (axc (bn addW (bn ixW (flE (axc (kk (.int 19968)) (axc (kk (.int 44032)) (axc (kk (.int 128512)) (axc (kk (.int 65281)) axn))))) (bn modW (vr 1) (kk (.int 4)))) (bn modW (bn fdivW (vr 1) (kk (.int 4))) (kk (.int 90)))) axn))) passS) (sqS (ifS (tb (bn eqW (vr 0) (kk (.int 6)))) (rtS (clE d__law_utf8 (axc (bn addW (kk (.int 160)) (bn modW (vr 1) (kk (.int 1500)))) axn))) passS) (sqS (ifS (tb (bn eqW (vr 0) (kk (.int 7)))) (rtS (flE (axc (bn ixW (flE (axc (kk (.int 8)) (axc (kk (.int 9)) (axc (kk (.int 10)) (axc (kk (.int 13)) (axc (kk (.int 11)) (axc (kk (.int 10)) (axc (kk (.int 12)) (axc (kk (.int 7)) axn))))))))) (bn modW (vr 1) (kk (.int 8)))) axn))) passS) (sqS (ifS (tb (bn eqW (vr 0) (kk (.int 8)))) (rtS (clE d__law_sequence (axc (vr 1) (axc (vr 2) (axc (kk (.int 12)) axn))))) passS) (sqS (ifS (tb (bn eqW (vr 0) (kk (.int 9)))) (rtS (clE d__law_sequence (axc (vr 1) (axc (vr 3) (axc (kk (.int 5)) axn))))) passS) (sqS (ifS (tb (bn eqW (vr 0) (kk (.int 10)))) (rtS (clE d__law_sequence (axc (vr 1) (axc (vr 4) (axc (kk (.int 6)) axn))))) passS) (sqS (ifS (tb (bn eqW (vr 0) (kk (.int 11)))) (rtS (clE d__law_sequence (axc (vr 1) (axc (vr 5) (axc (kk (.int 7)) axn))))) passS) (sqS (ifS (tb (bn eqW (vr 0) (kk (.int 12)))) (rtS (bn addW (bn addW (flE (axc (kk (.int 27)) (axc (kk (.int 91)) (axc (kk (.int 63)) axn)))) (clE d__law_digits (axc (bn ixW (flE (axc (kk (.int 6)) (axc (kk (.int 7)) (axc (kk (.int 25)) (axc (kk (.int 1049)) (axc (kk (.int 1049)) (axc (kk (.int 7)) axn))))))) (bn modW (vr 1) (kk (.int 6)))) axn))) (flE (axc (bn addW (kk (.int 104)) (bn mulW (kk (.int 4)) (bn modW (bn fdivW (vr 1) (kk (.int 6))) (kk (.int 2))))) axn)))) passS) (sqS (ifS (tb (bn eqW (vr 0) (kk (.int 13)))) (rtS (flE (axc (kk (.int 27)) (axc (bn ixW (flE (axc (kk (.int 55)) (axc (kk (.int 56)) (axc (kk (.int 68)) (axc (kk (.int 69)) (axc (kk (.int 72)) (axc (kk (.int 77)) (axc (kk (.int 77)) (axc (kk (.int 99)) axn))))))))) (bn modW (vr 1) (kk (.int 8)))) axn)))) passS) (sqS (ifS (tb (bn eqW (vr 0) (kk (.int 14)))) (sqS (setS 6 (bn ixW (flE (axc (kk (.int 0)) (axc (kk (.int 1)) (axc (kk (.int 4)) (axc (kk (.int 5)) (axc (kk (.int 7)) (axc (kk (.int 22)) (axc (kk (.int 24)) (axc (kk (.int 27)) (axc (kk (.int 31)) (axc (kk (.int 39)) (axc (kk (.int 44)) (axc (kk (.int 49)) (axc (kk (.int 95)) (axc (kk (.int 102)) (axc (kk (.int 38)) (axc (kk (.int 48)) axn))))))))))))))))) (bn modW (vr 1) (kk (.int 16))))) (rtS (bn addW (bn addW (bn addW (bn addW (flE (axc (kk (.int 27)) (axc (kk (.int 91)) axn))) (clE d__law_digits (axc (vr 6) axn))) (flE (axc (kk (.int 59)) (axc (kk (.int 53)) (axc (kk (.int 59)) axn))))) (clE d__law_digits (axc (bn modW (bn fdivW (vr 1) (kk (.int 16))) (kk (.int 300))) axn))) (flE (axc (kk (.int 109)) axn))))) passS) (sqS (ifS (tb (bn eqW (vr 0) (kk (.int 15)))) (rtS (bn addW (bn addW (flE (axc (kk (.int 27)) (axc (kk (.int 93)) (axc (bn addW (kk (.int 48)) (bn modW (vr 1) (kk (.int 3)))) (axc (kk (.int 59)) axn))))) (bn mulW (flE (axc (bn addW (kk (.int 60)) (bn modW (bn fdivW (vr 1) (kk (.int 3))) (kk (.int 60)))) axn)) (bn modW (bn fdivW (vr 1) (kk (.int 180))) (kk (.int 4))))) (bn ixW (flE (axc (flE (axc (kk (.int 7)) axn)) (axc (flE (axc (kk (.int 27)) (axc (kk (.int 92)) axn))) axn))) (bn modW (bn fdivW (vr 1) (kk (.int 720))) (kk (.int 2)))))) passS) (rtS (flE (axc (bn modW (vr 1) (kk (.int 256))) (axc (bn modW (bn fdivW (vr 1) (kk (.int 256))) (kk (.int 256))) (axc (bn modW (bn fdivW (vr 1) (kk (.int 65536))) (kk (.int 256))) axn)))))))))))))))))))))
abbrev d__law_token : List W → Sto → R W := r__law_token
theorem BL.seq {x most : Int} {k n : Nat} {fs : List Int} {env : En} {s : Sto} (hx : env[1]? = some (some (.int x))) (h : env[k]? = some (some (.fl (fs.map W.int)))) (hm : 0 < most) (hm2 : most ≤ 4000) (hf : fs ≠ []) (hl : fs.length ≤ 100) (hn : 3850 ≤ n) : BL n (clE d__law_sequence (axc (vr 1) (axc (vr k) (axc (kk (.int most)) axn)))) env s := by
  obtain ⟨xs, e, l⟩ := sequence_den (x := x) hm hm2 hf hl s
  refine ⟨xs, ?_, by omega⟩
  unfold clE axc axn vr kk
  simp only [hx, h, R.bind_ok]
  exact e
theorem utf8_len (p : Int) : (lawUtf8 p).length ≤ 4 := by
  unfold lawUtf8
  repeat' split
  all_goals simp
theorem BL.utf {m : Ex} {p : Int} {n : Nat} {env : En} {s : Sto} (h : m env s = .ok (.int p) s) (hn : 4 ≤ n) : BL n (clE d__law_utf8 (axc m axn)) env s := by
  have := utf8_len p
  refine ⟨lawUtf8 p, ?_, by omega⟩
  unfold clE axc axn
  simp only [h, R.bind_ok]
  exact lawutf8_den p s
theorem getD_all {P : Int → Prop} {fs : List Int} (h : ∀ x ∈ fs, P x) (h0 : P 0) (i : Nat) : P (fs.getD i 0) := by
  by_cases hi : i < fs.length
  · rw [List.getD_eq_getElem?_getD, List.getElem?_eq_getElem hi]
    exact h _ (List.getElem_mem hi)
  · rw [List.getD_eq_getElem?_getD, List.getElem?_eq_none (by omega)]
    exact h0
theorem token_den (k x : Int) (s : Sto) : ∃ xs : List Int, r__law_token [.int k, .int x] s = .ok (.fl (xs.map W.int)) s ∧ xs.length ≤ 3900 := by
  have a1 := fun s => ix_mod (fs := [19968, 44032, 128512, 65281]) (by decide) x 4 rfl s
  have a2 := fun s => ix_mod (fs := [8, 9, 10, 13, 11, 10, 12, 7]) (by decide) x 8 rfl s
  have a3 := fun s => ix_mod (fs := [6, 7, 25, 1049, 1049, 7]) (by decide) x 6 rfl s
  have a4 := fun s => ix_mod (fs := [55, 56, 68, 69, 72, 77, 77, 99]) (by decide) x 8 rfl s
  have a5 := fun s => ix_mod (fs := [0, 1, 4, 5, 7, 22, 24, 27, 31, 39, 44, 49, 95, 102, 38, 48]) (by decide) x 16 rfl s
  simp only [List.map_cons, List.map_nil] at a1 a2 a3 a4 a5
  have p3 : ∀ i, 0 ≤ List.getD [6, 7, 25, 1049, 1049, 7] i (0 : Int) ∧ List.getD [6, 7, 25, 1049, 1049, 7] i (0 : Int) < 4096 := getD_all (P := fun x => 0 ≤ x ∧ x < 4096) (by decide) (by decide)
  have p5 : ∀ i, 0 ≤ List.getD [0, 1, 4, 5, 7, 22, 24, 27, 31, 39, 44, 49, 95, 102, 38, 48] i (0 : Int) ∧ List.getD [0, 1, 4, 5, 7, 22, 24, 27, 31, 39, 44, 49, 95, 102, 38, 48] i (0 : Int) < 4096 := getD_all (P := fun x => 0 ≤ x ∧ x < 4096) (by decide) (by decide)
  generalize List.getD [19968, 44032, 128512, 65281] (x % 4).toNat (0 : Int) = z1 at *
  generalize List.getD [8, 9, 10, 13, 11, 10, 12, 7] (x % 8).toNat (0 : Int) = z2 at *
  have p3 := p3 (x % 6).toNat
  generalize List.getD [6, 7, 25, 1049, 1049, 7] (x % 6).toNat (0 : Int) = z3 at *
  generalize List.getD [55, 56, 68, 69, 72, 77, 77, 99] (x % 8).toNat (0 : Int) = z4 at *
  have p5 := p5 (x % 16).toNat
  generalize List.getD [0, 1, 4, 5, 7, 22, 24, 27, 31, 39, 44, 49, 95, 102, 38, 48] (x % 16).toNat (0 : Int) = z5 at *
  unfold r__law_token
  refine RL.body ?_
  refine RL.nx (e := [some (.int k), some (.int x), some (.fl (List.map W.int [65, 66, 67, 68, 69, 70, 71, 72, 73, 90, 100, 102])), none, none, none, none]) (by simp only [bodyD, pad, sqS, ifS, orB, andB, notB, tb, bn, un, vr, kk, rtS, rnS, exS, orE, andE, chn, ifE, trB, passS, noS, setS, asgS, parS, axc, axn, flE, lsE, tupE, clE, mthE, mkE, lmE, forS, sqI, rg1, rg2, gSb, gFd, setFS, augFS, gNm, gTp, gsC, gsN, augS, augI, bkS, ctS, whS, slE, oxn, oxs, lpS, List.map_cons, List.map_nil, List.length_cons, List.length_nil, List.replicate, List.cons_append, List.nil_append, Nat.reduceAdd, Nat.reduceSub, List.getElem?_cons_succ, List.getElem?_cons_zero, List.set_cons_zero, List.set_cons_succ, R.toS_ok, R.bind_ok, R.toS_ite, R.bind_ite, SR.go_nx, SR.go_rt, SR.go_bk, SR.go_ct, SR.go_ite, SR.lp_nx, SR.lp_rt, SR.lp_bk, SR.lp_ct, SR.lp_ite, fin_nx, fin_rt, fin_ite, W.cb_bl, if_true, if_false, Bool.false_eq_true, eq_int, ne_int, eq_bl, ne_bl, mx2, mn2, int0, notW, truW, fdiv_ok, mod_ok, mul_okl, add_int, neg_int, int_bl, int_int, listLF_fl, listF_fl, listF_tup, listLF_tup, Int.reduceLT, Int.reduceLE, Int.reduceNeg, decide_true, decide_false, pad]) ?_
  refine RL.nx (e := [some (.int k), some (.int x), some (.fl (List.map W.int [65, 66, 67, 68, 69, 70, 71, 72, 73, 90, 100, 102])), some (.fl (List.map W.int [64, 74, 75, 76, 77, 80, 88])), none, none, none]) (by simp only [bodyD, pad, sqS, ifS, orB, andB, notB, tb, bn, un, vr, kk, rtS, rnS, exS, orE, andE, chn, ifE, trB, passS, noS, setS, asgS, parS, axc, axn, flE, lsE, tupE, clE, mthE, mkE, lmE, forS, sqI, rg1, rg2, gSb, gFd, setFS, augFS, gNm, gTp, gsC, gsN, augS, augI, bkS, ctS, whS, slE, oxn, oxs, lpS, List.map_cons, List.map_nil, List.length_cons, List.length_nil, List.replicate, List.cons_append, List.nil_append, Nat.reduceAdd, Nat.reduceSub, List.getElem?_cons_succ, List.getElem?_cons_zero, List.set_cons_zero, List.set_cons_succ, R.toS_ok, R.bind_ok, R.toS_ite, R.bind_ite, SR.go_nx, SR.go_rt, SR.go_bk, SR.go_ct, SR.go_ite, SR.lp_nx, SR.lp_rt, SR.lp_bk, SR.lp_ct, SR.lp_ite, fin_nx, fin_rt, fin_ite, W.cb_bl, if_true, if_false, Bool.false_eq_true, eq_int, ne_int, eq_bl, ne_bl, mx2, mn2, int0, notW, truW, fdiv_ok, mod_ok, mul_okl, add_int, neg_int, int_bl, int_int, listLF_fl, listF_fl, listF_tup, listLF_tup, Int.reduceLT, Int.reduceLE, Int.reduceNeg, decide_true, decide_false]) ?_
  refine RL.nx (e := [some (.int k), some (.int x), some (.fl (List.map W.int [65, 66, 67, 68, 69, 70, 71, 72, 73, 90, 100, 102])), some (.fl (List.map W.int [64, 74, 75, 76, 77, 80, 88])), some (.fl (List.map W.int [76, 77, 83, 84, 114, 114])), none, none]) (by simp only [bodyD, pad, sqS, ifS, orB, andB, notB, tb, bn, un, vr, kk, rtS, rnS, exS, orE, andE, chn, ifE, trB, passS, noS, setS, asgS, parS, axc, axn, flE, lsE, tupE, clE, mthE, mkE, lmE, forS, sqI, rg1, rg2, gSb, gFd, setFS, augFS, gNm, gTp, gsC, gsN, augS, augI, bkS, ctS, whS, slE, oxn, oxs, lpS, List.map_cons, List.map_nil, List.length_cons, List.length_nil, List.replicate, List.cons_append, List.nil_append, Nat.reduceAdd, Nat.reduceSub, List.getElem?_cons_succ, List.getElem?_cons_zero, List.set_cons_zero, List.set_cons_succ, R.toS_ok, R.bind_ok, R.toS_ite, R.bind_ite, SR.go_nx, SR.go_rt, SR.go_bk, SR.go_ct, SR.go_ite, SR.lp_nx, SR.lp_rt, SR.lp_bk, SR.lp_ct, SR.lp_ite, fin_nx, fin_rt, fin_ite, W.cb_bl, if_true, if_false, Bool.false_eq_true, eq_int, ne_int, eq_bl, ne_bl, mx2, mn2, int0, notW, truW, fdiv_ok, mod_ok, mul_okl, add_int, neg_int, int_bl, int_int, listLF_fl, listF_fl, listF_tup, listLF_tup, Int.reduceLT, Int.reduceLE, Int.reduceNeg, decide_true, decide_false]) ?_
  refine RL.nx (e := [some (.int k), some (.int x), some (.fl (List.map W.int [65, 66, 67, 68, 69, 70, 71, 72, 73, 90, 100, 102])), some (.fl (List.map W.int [64, 74, 75, 76, 77, 80, 88])), some (.fl (List.map W.int [76, 77, 83, 84, 114, 114])), some (.fl (List.map W.int [99, 103, 110, 110, 115, 117, 104, 108, 105])), none]) (by simp only [bodyD, pad, sqS, ifS, orB, andB, notB, tb, bn, un, vr, kk, rtS, rnS, exS, orE, andE, chn, ifE, trB, passS, noS, setS, asgS, parS, axc, axn, flE, lsE, tupE, clE, mthE, mkE, lmE, forS, sqI, rg1, rg2, gSb, gFd, setFS, augFS, gNm, gTp, gsC, gsN, augS, augI, bkS, ctS, whS, slE, oxn, oxs, lpS, List.map_cons, List.map_nil, List.length_cons, List.length_nil, List.replicate, List.cons_append, List.nil_append, Nat.reduceAdd, Nat.reduceSub, List.getElem?_cons_succ, List.getElem?_cons_zero, List.set_cons_zero, List.set_cons_succ, R.toS_ok, R.bind_ok, R.toS_ite, R.bind_ite, SR.go_nx, SR.go_rt, SR.go_bk, SR.go_ct, SR.go_ite, SR.lp_nx, SR.lp_rt, SR.lp_bk, SR.lp_ct, SR.lp_ite, fin_nx, fin_rt, fin_ite, W.cb_bl, if_true, if_false, Bool.false_eq_true, eq_int, ne_int, eq_bl, ne_bl, mx2, mn2, int0, notW, truW, fdiv_ok, mod_ok, mul_okl, add_int, neg_int, int_bl, int_int, listLF_fl, listF_fl, listF_tup, listLF_tup, Int.reduceLT, Int.reduceLE, Int.reduceNeg, decide_true, decide_false]) ?_
  refine RL.br (by simp only [bodyD, pad, sqS, ifS, orB, andB, notB, tb, bn, un, vr, kk, rtS, rnS, exS, orE, andE, chn, ifE, trB, passS, noS, setS, asgS, parS, axc, axn, flE, lsE, tupE, clE, mthE, mkE, lmE, forS, sqI, rg1, rg2, gSb, gFd, setFS, augFS, gNm, gTp, gsC, gsN, augS, augI, bkS, ctS, whS, slE, oxn, oxs, lpS, List.map_cons, List.map_nil, List.length_cons, List.length_nil, List.replicate, List.cons_append, List.nil_append, Nat.reduceAdd, Nat.reduceSub, List.getElem?_cons_succ, List.getElem?_cons_zero, List.set_cons_zero, List.set_cons_succ, R.toS_ok, R.bind_ok, R.toS_ite, R.bind_ite, SR.go_nx, SR.go_rt, SR.go_bk, SR.go_ct, SR.go_ite, SR.lp_nx, SR.lp_rt, SR.lp_bk, SR.lp_ct, SR.lp_ite, fin_nx, fin_rt, fin_ite, W.cb_bl, if_true, if_false, Bool.false_eq_true, eq_int, ne_int, eq_bl, ne_bl, mx2, mn2, int0, notW, truW, fdiv_ok, mod_ok, mul_okl, add_int, neg_int, int_bl, int_int, listLF_fl, listF_fl, listF_tup, listLF_tup, Int.reduceLT, Int.reduceLE, Int.reduceNeg, decide_true, decide_false]; exact ⟨_, rfl⟩) (RL.rt (BL.mul (a := 1) (k := 1 + x / 26 % 4) (BL.one (k := 97 + x % 26) (by simp only [bodyD, pad, sqS, ifS, orB, andB, notB, tb, bn, un, vr, kk, rtS, rnS, exS, orE, andE, chn, ifE, trB, passS, noS, setS, asgS, parS, axc, axn, flE, lsE, tupE, clE, mthE, mkE, lmE, forS, sqI, rg1, rg2, gSb, gFd, setFS, augFS, gNm, gTp, gsC, gsN, augS, augI, bkS, ctS, whS, slE, oxn, oxs, lpS, List.map_cons, List.map_nil, List.length_cons, List.length_nil, List.replicate, List.cons_append, List.nil_append, Nat.reduceAdd, Nat.reduceSub, List.getElem?_cons_succ, List.getElem?_cons_zero, List.set_cons_zero, List.set_cons_succ, R.toS_ok, R.bind_ok, R.toS_ite, R.bind_ite, SR.go_nx, SR.go_rt, SR.go_bk, SR.go_ct, SR.go_ite, SR.lp_nx, SR.lp_rt, SR.lp_bk, SR.lp_ct, SR.lp_ite, fin_nx, fin_rt, fin_ite, W.cb_bl, if_true, if_false, Bool.false_eq_true, eq_int, ne_int, eq_bl, ne_bl, mx2, mn2, int0, notW, truW, fdiv_ok, mod_ok, mul_okl, add_int, neg_int, int_bl, int_int, listLF_fl, listF_fl, listF_tup, listLF_tup, Int.reduceLT, Int.reduceLE, Int.reduceNeg, decide_true, decide_false]) (by decide)) (by simp only [bodyD, pad, sqS, ifS, orB, andB, notB, tb, bn, un, vr, kk, rtS, rnS, exS, orE, andE, chn, ifE, trB, passS, noS, setS, asgS, parS, axc, axn, flE, lsE, tupE, clE, mthE, mkE, lmE, forS, sqI, rg1, rg2, gSb, gFd, setFS, augFS, gNm, gTp, gsC, gsN, augS, augI, bkS, ctS, whS, slE, oxn, oxs, lpS, List.map_cons, List.map_nil, List.length_cons, List.length_nil, List.replicate, List.cons_append, List.nil_append, Nat.reduceAdd, Nat.reduceSub, List.getElem?_cons_succ, List.getElem?_cons_zero, List.set_cons_zero, List.set_cons_succ, R.toS_ok, R.bind_ok, R.toS_ite, R.bind_ite, SR.go_nx, SR.go_rt, SR.go_bk, SR.go_ct, SR.go_ite, SR.lp_nx, SR.lp_rt, SR.lp_bk, SR.lp_ct, SR.lp_ite, fin_nx, fin_rt, fin_ite, W.cb_bl, if_true, if_false, Bool.false_eq_true, eq_int, ne_int, eq_bl, ne_bl, mx2, mn2, int0, notW, truW, fdiv_ok, mod_ok, mul_okl, add_int, neg_int, int_bl, int_int, listLF_fl, listF_fl, listF_tup, listLF_tup, Int.reduceLT, Int.reduceLE, Int.reduceNeg, decide_true, decide_false]) (by omega) (by omega) (by decide) (by decide))) ?_
  refine RL.br (by simp only [bodyD, pad, sqS, ifS, orB, andB, notB, tb, bn, un, vr, kk, rtS, rnS, exS, orE, andE, chn, ifE, trB, passS, noS, setS, asgS, parS, axc, axn, flE, lsE, tupE, clE, mthE, mkE, lmE, forS, sqI, rg1, rg2, gSb, gFd, setFS, augFS, gNm, gTp, gsC, gsN, augS, augI, bkS, ctS, whS, slE, oxn, oxs, lpS, List.map_cons, List.map_nil, List.length_cons, List.length_nil, List.replicate, List.cons_append, List.nil_append, Nat.reduceAdd, Nat.reduceSub, List.getElem?_cons_succ, List.getElem?_cons_zero, List.set_cons_zero, List.set_cons_succ, R.toS_ok, R.bind_ok, R.toS_ite, R.bind_ite, SR.go_nx, SR.go_rt, SR.go_bk, SR.go_ct, SR.go_ite, SR.lp_nx, SR.lp_rt, SR.lp_bk, SR.lp_ct, SR.lp_ite, fin_nx, fin_rt, fin_ite, W.cb_bl, if_true, if_false, Bool.false_eq_true, eq_int, ne_int, eq_bl, ne_bl, mx2, mn2, int0, notW, truW, fdiv_ok, mod_ok, mul_okl, add_int, neg_int, int_bl, int_int, listLF_fl, listF_fl, listF_tup, listLF_tup, Int.reduceLT, Int.reduceLE, Int.reduceNeg, decide_true, decide_false]; exact ⟨_, rfl⟩) (RL.rt (BL.utf (p := z1 + x / 4 % 90) (by simp only [bodyD, pad, sqS, ifS, orB, andB, notB, tb, bn, un, vr, kk, rtS, rnS, exS, orE, andE, chn, ifE, trB, passS, noS, setS, asgS, parS, axc, axn, flE, lsE, tupE, clE, mthE, mkE, lmE, forS, sqI, rg1, rg2, gSb, gFd, setFS, augFS, gNm, gTp, gsC, gsN, augS, augI, bkS, ctS, whS, slE, oxn, oxs, lpS, List.map_cons, List.map_nil, List.length_cons, List.length_nil, List.replicate, List.cons_append, List.nil_append, Nat.reduceAdd, Nat.reduceSub, List.getElem?_cons_succ, List.getElem?_cons_zero, List.set_cons_zero, List.set_cons_succ, R.toS_ok, R.bind_ok, R.toS_ite, R.bind_ite, SR.go_nx, SR.go_rt, SR.go_bk, SR.go_ct, SR.go_ite, SR.lp_nx, SR.lp_rt, SR.lp_bk, SR.lp_ct, SR.lp_ite, fin_nx, fin_rt, fin_ite, W.cb_bl, if_true, if_false, Bool.false_eq_true, eq_int, ne_int, eq_bl, ne_bl, mx2, mn2, int0, notW, truW, fdiv_ok, mod_ok, mul_okl, add_int, neg_int, int_bl, int_int, listLF_fl, listF_fl, listF_tup, listLF_tup, Int.reduceLT, Int.reduceLE, Int.reduceNeg, decide_true, decide_false, a1]) (by decide))) ?_
  refine RL.br (by simp only [bodyD, pad, sqS, ifS, orB, andB, notB, tb, bn, un, vr, kk, rtS, rnS, exS, orE, andE, chn, ifE, trB, passS, noS, setS, asgS, parS, axc, axn, flE, lsE, tupE, clE, mthE, mkE, lmE, forS, sqI, rg1, rg2, gSb, gFd, setFS, augFS, gNm, gTp, gsC, gsN, augS, augI, bkS, ctS, whS, slE, oxn, oxs, lpS, List.map_cons, List.map_nil, List.length_cons, List.length_nil, List.replicate, List.cons_append, List.nil_append, Nat.reduceAdd, Nat.reduceSub, List.getElem?_cons_succ, List.getElem?_cons_zero, List.set_cons_zero, List.set_cons_succ, R.toS_ok, R.bind_ok, R.toS_ite, R.bind_ite, SR.go_nx, SR.go_rt, SR.go_bk, SR.go_ct, SR.go_ite, SR.lp_nx, SR.lp_rt, SR.lp_bk, SR.lp_ct, SR.lp_ite, fin_nx, fin_rt, fin_ite, W.cb_bl, if_true, if_false, Bool.false_eq_true, eq_int, ne_int, eq_bl, ne_bl, mx2, mn2, int0, notW, truW, fdiv_ok, mod_ok, mul_okl, add_int, neg_int, int_bl, int_int, listLF_fl, listF_fl, listF_tup, listLF_tup, Int.reduceLT, Int.reduceLE, Int.reduceNeg, decide_true, decide_false]; exact ⟨_, rfl⟩) (RL.rt (BL.utf (p := 160 + x % 1500) (by simp only [bodyD, pad, sqS, ifS, orB, andB, notB, tb, bn, un, vr, kk, rtS, rnS, exS, orE, andE, chn, ifE, trB, passS, noS, setS, asgS, parS, axc, axn, flE, lsE, tupE, clE, mthE, mkE, lmE, forS, sqI, rg1, rg2, gSb, gFd, setFS, augFS, gNm, gTp, gsC, gsN, augS, augI, bkS, ctS, whS, slE, oxn, oxs, lpS, List.map_cons, List.map_nil, List.length_cons, List.length_nil, List.replicate, List.cons_append, List.nil_append, Nat.reduceAdd, Nat.reduceSub, List.getElem?_cons_succ, List.getElem?_cons_zero, List.set_cons_zero, List.set_cons_succ, R.toS_ok, R.bind_ok, R.toS_ite, R.bind_ite, SR.go_nx, SR.go_rt, SR.go_bk, SR.go_ct, SR.go_ite, SR.lp_nx, SR.lp_rt, SR.lp_bk, SR.lp_ct, SR.lp_ite, fin_nx, fin_rt, fin_ite, W.cb_bl, if_true, if_false, Bool.false_eq_true, eq_int, ne_int, eq_bl, ne_bl, mx2, mn2, int0, notW, truW, fdiv_ok, mod_ok, mul_okl, add_int, neg_int, int_bl, int_int, listLF_fl, listF_fl, listF_tup, listLF_tup, Int.reduceLT, Int.reduceLE, Int.reduceNeg, decide_true, decide_false]) (by decide))) ?_
  refine RL.br (by simp only [bodyD, pad, sqS, ifS, orB, andB, notB, tb, bn, un, vr, kk, rtS, rnS, exS, orE, andE, chn, ifE, trB, passS, noS, setS, asgS, parS, axc, axn, flE, lsE, tupE, clE, mthE, mkE, lmE, forS, sqI, rg1, rg2, gSb, gFd, setFS, augFS, gNm, gTp, gsC, gsN, augS, augI, bkS, ctS, whS, slE, oxn, oxs, lpS, List.map_cons, List.map_nil, List.length_cons, List.length_nil, List.replicate, List.cons_append, List.nil_append, Nat.reduceAdd, Nat.reduceSub, List.getElem?_cons_succ, List.getElem?_cons_zero, List.set_cons_zero, List.set_cons_succ, R.toS_ok, R.bind_ok, R.toS_ite, R.bind_ite, SR.go_nx, SR.go_rt, SR.go_bk, SR.go_ct, SR.go_ite, SR.lp_nx, SR.lp_rt, SR.lp_bk, SR.lp_ct, SR.lp_ite, fin_nx, fin_rt, fin_ite, W.cb_bl, if_true, if_false, Bool.false_eq_true, eq_int, ne_int, eq_bl, ne_bl, mx2, mn2, int0, notW, truW, fdiv_ok, mod_ok, mul_okl, add_int, neg_int, int_bl, int_int, listLF_fl, listF_fl, listF_tup, listLF_tup, Int.reduceLT, Int.reduceLE, Int.reduceNeg, decide_true, decide_false]; exact ⟨_, rfl⟩) (RL.rt (BL.one (k := z2) (by simp only [bodyD, pad, sqS, ifS, orB, andB, notB, tb, bn, un, vr, kk, rtS, rnS, exS, orE, andE, chn, ifE, trB, passS, noS, setS, asgS, parS, axc, axn, flE, lsE, tupE, clE, mthE, mkE, lmE, forS, sqI, rg1, rg2, gSb, gFd, setFS, augFS, gNm, gTp, gsC, gsN, augS, augI, bkS, ctS, whS, slE, oxn, oxs, lpS, List.map_cons, List.map_nil, List.length_cons, List.length_nil, List.replicate, List.cons_append, List.nil_append, Nat.reduceAdd, Nat.reduceSub, List.getElem?_cons_succ, List.getElem?_cons_zero, List.set_cons_zero, List.set_cons_succ, R.toS_ok, R.bind_ok, R.toS_ite, R.bind_ite, SR.go_nx, SR.go_rt, SR.go_bk, SR.go_ct, SR.go_ite, SR.lp_nx, SR.lp_rt, SR.lp_bk, SR.lp_ct, SR.lp_ite, fin_nx, fin_rt, fin_ite, W.cb_bl, if_true, if_false, Bool.false_eq_true, eq_int, ne_int, eq_bl, ne_bl, mx2, mn2, int0, notW, truW, fdiv_ok, mod_ok, mul_okl, add_int, neg_int, int_bl, int_int, listLF_fl, listF_fl, listF_tup, listLF_tup, Int.reduceLT, Int.reduceLE, Int.reduceNeg, decide_true, decide_false, a2]) (by decide))) ?_
  refine RL.br (by simp only [bodyD, pad, sqS, ifS, orB, andB, notB, tb, bn, un, vr, kk, rtS, rnS, exS, orE, andE, chn, ifE, trB, passS, noS, setS, asgS, parS, axc, axn, flE, lsE, tupE, clE, mthE, mkE, lmE, forS, sqI, rg1, rg2, gSb, gFd, setFS, augFS, gNm, gTp, gsC, gsN, augS, augI, bkS, ctS, whS, slE, oxn, oxs, lpS, List.map_cons, List.map_nil, List.length_cons, List.length_nil, List.replicate, List.cons_append, List.nil_append, Nat.reduceAdd, Nat.reduceSub, List.getElem?_cons_succ, List.getElem?_cons_zero, List.set_cons_zero, List.set_cons_succ, R.toS_ok, R.bind_ok, R.toS_ite, R.bind_ite, SR.go_nx, SR.go_rt, SR.go_bk, SR.go_ct, SR.go_ite, SR.lp_nx, SR.lp_rt, SR.lp_bk, SR.lp_ct, SR.lp_ite, fin_nx, fin_rt, fin_ite, W.cb_bl, if_true, if_false, Bool.false_eq_true, eq_int, ne_int, eq_bl, ne_bl, mx2, mn2, int0, notW, truW, fdiv_ok, mod_ok, mul_okl, add_int, neg_int, int_bl, int_int, listLF_fl, listF_fl, listF_tup, listLF_tup, Int.reduceLT, Int.reduceLE, Int.reduceNeg, decide_true, decide_false]; exact ⟨_, rfl⟩) (RL.rt (BL.seq (fs := [65, 66, 67, 68, 69, 70, 71, 72, 73, 90, 100, 102]) rfl rfl (by decide) (by decide) (by decide) (by decide) (by decide))) ?_
  refine RL.br (by simp only [bodyD, pad, sqS, ifS, orB, andB, notB, tb, bn, un, vr, kk, rtS, rnS, exS, orE, andE, chn, ifE, trB, passS, noS, setS, asgS, parS, axc, axn, flE, lsE, tupE, clE, mthE, mkE, lmE, forS, sqI, rg1, rg2, gSb, gFd, setFS, augFS, gNm, gTp, gsC, gsN, augS, augI, bkS, ctS, whS, slE, oxn, oxs, lpS, List.map_cons, List.map_nil, List.length_cons, List.length_nil, List.replicate, List.cons_append, List.nil_append, Nat.reduceAdd, Nat.reduceSub, List.getElem?_cons_succ, List.getElem?_cons_zero, List.set_cons_zero, List.set_cons_succ, R.toS_ok, R.bind_ok, R.toS_ite, R.bind_ite, SR.go_nx, SR.go_rt, SR.go_bk, SR.go_ct, SR.go_ite, SR.lp_nx, SR.lp_rt, SR.lp_bk, SR.lp_ct, SR.lp_ite, fin_nx, fin_rt, fin_ite, W.cb_bl, if_true, if_false, Bool.false_eq_true, eq_int, ne_int, eq_bl, ne_bl, mx2, mn2, int0, notW, truW, fdiv_ok, mod_ok, mul_okl, add_int, neg_int, int_bl, int_int, listLF_fl, listF_fl, listF_tup, listLF_tup, Int.reduceLT, Int.reduceLE, Int.reduceNeg, decide_true, decide_false]; exact ⟨_, rfl⟩) (RL.rt (BL.seq (fs := [64, 74, 75, 76, 77, 80, 88]) rfl rfl (by decide) (by decide) (by decide) (by decide) (by decide))) ?_
  refine RL.br (by simp only [bodyD, pad, sqS, ifS, orB, andB, notB, tb, bn, un, vr, kk, rtS, rnS, exS, orE, andE, chn, ifE, trB, passS, noS, setS, asgS, parS, axc, axn, flE, lsE, tupE, clE, mthE, mkE, lmE, forS, sqI, rg1, rg2, gSb, gFd, setFS, augFS, gNm, gTp, gsC, gsN, augS, augI, bkS, ctS, whS, slE, oxn, oxs, lpS, List.map_cons, List.map_nil, List.length_cons, List.length_nil, List.replicate, List.cons_append, List.nil_append, Nat.reduceAdd, Nat.reduceSub, List.getElem?_cons_succ, List.getElem?_cons_zero, List.set_cons_zero, List.set_cons_succ, R.toS_ok, R.bind_ok, R.toS_ite, R.bind_ite, SR.go_nx, SR.go_rt, SR.go_bk, SR.go_ct, SR.go_ite, SR.lp_nx, SR.lp_rt, SR.lp_bk, SR.lp_ct, SR.lp_ite, fin_nx, fin_rt, fin_ite, W.cb_bl, if_true, if_false, Bool.false_eq_true, eq_int, ne_int, eq_bl, ne_bl, mx2, mn2, int0, notW, truW, fdiv_ok, mod_ok, mul_okl, add_int, neg_int, int_bl, int_int, listLF_fl, listF_fl, listF_tup, listLF_tup, Int.reduceLT, Int.reduceLE, Int.reduceNeg, decide_true, decide_false]; exact ⟨_, rfl⟩) (RL.rt (BL.seq (fs := [76, 77, 83, 84, 114, 114]) rfl rfl (by decide) (by decide) (by decide) (by decide) (by decide))) ?_
  refine RL.br (by simp only [bodyD, pad, sqS, ifS, orB, andB, notB, tb, bn, un, vr, kk, rtS, rnS, exS, orE, andE, chn, ifE, trB, passS, noS, setS, asgS, parS, axc, axn, flE, lsE, tupE, clE, mthE, mkE, lmE, forS, sqI, rg1, rg2, gSb, gFd, setFS, augFS, gNm, gTp, gsC, gsN, augS, augI, bkS, ctS, whS, slE, oxn, oxs, lpS, List.map_cons, List.map_nil, List.length_cons, List.length_nil, List.replicate, List.cons_append, List.nil_append, Nat.reduceAdd, Nat.reduceSub, List.getElem?_cons_succ, List.getElem?_cons_zero, List.set_cons_zero, List.set_cons_succ, R.toS_ok, R.bind_ok, R.toS_ite, R.bind_ite, SR.go_nx, SR.go_rt, SR.go_bk, SR.go_ct, SR.go_ite, SR.lp_nx, SR.lp_rt, SR.lp_bk, SR.lp_ct, SR.lp_ite, fin_nx, fin_rt, fin_ite, W.cb_bl, if_true, if_false, Bool.false_eq_true, eq_int, ne_int, eq_bl, ne_bl, mx2, mn2, int0, notW, truW, fdiv_ok, mod_ok, mul_okl, add_int, neg_int, int_bl, int_int, listLF_fl, listF_fl, listF_tup, listLF_tup, Int.reduceLT, Int.reduceLE, Int.reduceNeg, decide_true, decide_false]; exact ⟨_, rfl⟩) (RL.rt (BL.seq (fs := [99, 103, 110, 110, 115, 117, 104, 108, 105]) rfl rfl (by decide) (by decide) (by decide) (by decide) (by decide))) ?_
  refine RL.br (by simp only [bodyD, pad, sqS, ifS, orB, andB, notB, tb, bn, un, vr, kk, rtS, rnS, exS, orE, andE, chn, ifE, trB, passS, noS, setS, asgS, parS, axc, axn, flE, lsE, tupE, clE, mthE, mkE, lmE, forS, sqI, rg1, rg2, gSb, gFd, setFS, augFS, gNm, gTp, gsC, gsN, augS, augI, bkS, ctS, whS, slE, oxn, oxs, lpS, List.map_cons, List.map_nil, List.length_cons, List.length_nil, List.replicate, List.cons_append, List.nil_append, Nat.reduceAdd, Nat.reduceSub, List.getElem?_cons_succ, List.getElem?_cons_zero, List.set_cons_zero, List.set_cons_succ, R.toS_ok, R.bind_ok, R.toS_ite, R.bind_ite, SR.go_nx, SR.go_rt, SR.go_bk, SR.go_ct, SR.go_ite, SR.lp_nx, SR.lp_rt, SR.lp_bk, SR.lp_ct, SR.lp_ite, fin_nx, fin_rt, fin_ite, W.cb_bl, if_true, if_false, Bool.false_eq_true, eq_int, ne_int, eq_bl, ne_bl, mx2, mn2, int0, notW, truW, fdiv_ok, mod_ok, mul_okl, add_int, neg_int, int_bl, int_int, listLF_fl, listF_fl, listF_tup, listLF_tup, Int.reduceLT, Int.reduceLE, Int.reduceNeg, decide_true, decide_false]; exact ⟨_, rfl⟩) (RL.rt (BL.add (a := 1924) (b := 1) (BL.add (a := 3) (b := 1921) ⟨[27, 91, 63], rfl, by decide⟩ (BL.dig (n := z3) (by simp only [bodyD, pad, sqS, ifS, orB, andB, notB, tb, bn, un, vr, kk, rtS, rnS, exS, orE, andE, chn, ifE, trB, passS, noS, setS, asgS, parS, axc, axn, flE, lsE, tupE, clE, mthE, mkE, lmE, forS, sqI, rg1, rg2, gSb, gFd, setFS, augFS, gNm, gTp, gsC, gsN, augS, augI, bkS, ctS, whS, slE, oxn, oxs, lpS, List.map_cons, List.map_nil, List.length_cons, List.length_nil, List.replicate, List.cons_append, List.nil_append, Nat.reduceAdd, Nat.reduceSub, List.getElem?_cons_succ, List.getElem?_cons_zero, List.set_cons_zero, List.set_cons_succ, R.toS_ok, R.bind_ok, R.toS_ite, R.bind_ite, SR.go_nx, SR.go_rt, SR.go_bk, SR.go_ct, SR.go_ite, SR.lp_nx, SR.lp_rt, SR.lp_bk, SR.lp_ct, SR.lp_ite, fin_nx, fin_rt, fin_ite, W.cb_bl, if_true, if_false, Bool.false_eq_true, eq_int, ne_int, eq_bl, ne_bl, mx2, mn2, int0, notW, truW, fdiv_ok, mod_ok, mul_okl, add_int, neg_int, int_bl, int_int, listLF_fl, listF_fl, listF_tup, listLF_tup, Int.reduceLT, Int.reduceLE, Int.reduceNeg, decide_true, decide_false, a3]) p3.1 p3.2 (by decide)) (by decide) (by decide)) (BL.one (k := 104 + 4 * (x / 6 % 2)) (by simp only [bodyD, pad, sqS, ifS, orB, andB, notB, tb, bn, un, vr, kk, rtS, rnS, exS, orE, andE, chn, ifE, trB, passS, noS, setS, asgS, parS, axc, axn, flE, lsE, tupE, clE, mthE, mkE, lmE, forS, sqI, rg1, rg2, gSb, gFd, setFS, augFS, gNm, gTp, gsC, gsN, augS, augI, bkS, ctS, whS, slE, oxn, oxs, lpS, List.map_cons, List.map_nil, List.length_cons, List.length_nil, List.replicate, List.cons_append, List.nil_append, Nat.reduceAdd, Nat.reduceSub, List.getElem?_cons_succ, List.getElem?_cons_zero, List.set_cons_zero, List.set_cons_succ, R.toS_ok, R.bind_ok, R.toS_ite, R.bind_ite, SR.go_nx, SR.go_rt, SR.go_bk, SR.go_ct, SR.go_ite, SR.lp_nx, SR.lp_rt, SR.lp_bk, SR.lp_ct, SR.lp_ite, fin_nx, fin_rt, fin_ite, W.cb_bl, if_true, if_false, Bool.false_eq_true, eq_int, ne_int, eq_bl, ne_bl, mx2, mn2, int0, notW, truW, fdiv_ok, mod_ok, mul_okl, add_int, neg_int, int_bl, int_int, listLF_fl, listF_fl, listF_tup, listLF_tup, Int.reduceLT, Int.reduceLE, Int.reduceNeg, decide_true, decide_false]) (by decide)) (by decide) (by decide))) ?_
  refine RL.br (by simp only [bodyD, pad, sqS, ifS, orB, andB, notB, tb, bn, un, vr, kk, rtS, rnS, exS, orE, andE, chn, ifE, trB, passS, noS, setS, asgS, parS, axc, axn, flE, lsE, tupE, clE, mthE, mkE, lmE, forS, sqI, rg1, rg2, gSb, gFd, setFS, augFS, gNm, gTp, gsC, gsN, augS, augI, bkS, ctS, whS, slE, oxn, oxs, lpS, List.map_cons, List.map_nil, List.length_cons, List.length_nil, List.replicate, List.cons_append, List.nil_append, Nat.reduceAdd, Nat.reduceSub, List.getElem?_cons_succ, List.getElem?_cons_zero, List.set_cons_zero, List.set_cons_succ, R.toS_ok, R.bind_ok, R.toS_ite, R.bind_ite, SR.go_nx, SR.go_rt, SR.go_bk, SR.go_ct, SR.go_ite, SR.lp_nx, SR.lp_rt, SR.lp_bk, SR.lp_ct, SR.lp_ite, fin_nx, fin_rt, fin_ite, W.cb_bl, if_true, if_false, Bool.false_eq_true, eq_int, ne_int, eq_bl, ne_bl, mx2, mn2, int0, notW, truW, fdiv_ok, mod_ok, mul_okl, add_int, neg_int, int_bl, int_int, listLF_fl, listF_fl, listF_tup, listLF_tup, Int.reduceLT, Int.reduceLE, Int.reduceNeg, decide_true, decide_false]; exact ⟨_, rfl⟩) (RL.rt ⟨[27, z4], by simp only [bodyD, pad, sqS, ifS, orB, andB, notB, tb, bn, un, vr, kk, rtS, rnS, exS, orE, andE, chn, ifE, trB, passS, noS, setS, asgS, parS, axc, axn, flE, lsE, tupE, clE, mthE, mkE, lmE, forS, sqI, rg1, rg2, gSb, gFd, setFS, augFS, gNm, gTp, gsC, gsN, augS, augI, bkS, ctS, whS, slE, oxn, oxs, lpS, List.map_cons, List.map_nil, List.length_cons, List.length_nil, List.replicate, List.cons_append, List.nil_append, Nat.reduceAdd, Nat.reduceSub, List.getElem?_cons_succ, List.getElem?_cons_zero, List.set_cons_zero, List.set_cons_succ, R.toS_ok, R.bind_ok, R.toS_ite, R.bind_ite, SR.go_nx, SR.go_rt, SR.go_bk, SR.go_ct, SR.go_ite, SR.lp_nx, SR.lp_rt, SR.lp_bk, SR.lp_ct, SR.lp_ite, fin_nx, fin_rt, fin_ite, W.cb_bl, if_true, if_false, Bool.false_eq_true, eq_int, ne_int, eq_bl, ne_bl, mx2, mn2, int0, notW, truW, fdiv_ok, mod_ok, mul_okl, add_int, neg_int, int_bl, int_int, listLF_fl, listF_fl, listF_tup, listLF_tup, Int.reduceLT, Int.reduceLE, Int.reduceNeg, decide_true, decide_false, a4], by simp⟩) ?_
  refine RL.br (by simp only [bodyD, pad, sqS, ifS, orB, andB, notB, tb, bn, un, vr, kk, rtS, rnS, exS, orE, andE, chn, ifE, trB, passS, noS, setS, asgS, parS, axc, axn, flE, lsE, tupE, clE, mthE, mkE, lmE, forS, sqI, rg1, rg2, gSb, gFd, setFS, augFS, gNm, gTp, gsC, gsN, augS, augI, bkS, ctS, whS, slE, oxn, oxs, lpS, List.map_cons, List.map_nil, List.length_cons, List.length_nil, List.replicate, List.cons_append, List.nil_append, Nat.reduceAdd, Nat.reduceSub, List.getElem?_cons_succ, List.getElem?_cons_zero, List.set_cons_zero, List.set_cons_succ, R.toS_ok, R.bind_ok, R.toS_ite, R.bind_ite, SR.go_nx, SR.go_rt, SR.go_bk, SR.go_ct, SR.go_ite, SR.lp_nx, SR.lp_rt, SR.lp_bk, SR.lp_ct, SR.lp_ite, fin_nx, fin_rt, fin_ite, W.cb_bl, if_true, if_false, Bool.false_eq_true, eq_int, ne_int, eq_bl, ne_bl, mx2, mn2, int0, notW, truW, fdiv_ok, mod_ok, mul_okl, add_int, neg_int, int_bl, int_int, listLF_fl, listF_fl, listF_tup, listLF_tup, Int.reduceLT, Int.reduceLE, Int.reduceNeg, decide_true, decide_false]; exact ⟨_, rfl⟩) (RL.nx (e := [some (.int k), some (.int x), some (.fl (List.map W.int [65, 66, 67, 68, 69, 70, 71, 72, 73, 90, 100, 102])), some (.fl (List.map W.int [64, 74, 75, 76, 77, 80, 88])), some (.fl (List.map W.int [76, 77, 83, 84, 114, 114])), some (.fl (List.map W.int [99, 103, 110, 110, 115, 117, 104, 108, 105])), some (.int z5)]) (by simp only [bodyD, pad, sqS, ifS, orB, andB, notB, tb, bn, un, vr, kk, rtS, rnS, exS, orE, andE, chn, ifE, trB, passS, noS, setS, asgS, parS, axc, axn, flE, lsE, tupE, clE, mthE, mkE, lmE, forS, sqI, rg1, rg2, gSb, gFd, setFS, augFS, gNm, gTp, gsC, gsN, augS, augI, bkS, ctS, whS, slE, oxn, oxs, lpS, List.map_cons, List.map_nil, List.length_cons, List.length_nil, List.replicate, List.cons_append, List.nil_append, Nat.reduceAdd, Nat.reduceSub, List.getElem?_cons_succ, List.getElem?_cons_zero, List.set_cons_zero, List.set_cons_succ, R.toS_ok, R.bind_ok, R.toS_ite, R.bind_ite, SR.go_nx, SR.go_rt, SR.go_bk, SR.go_ct, SR.go_ite, SR.lp_nx, SR.lp_rt, SR.lp_bk, SR.lp_ct, SR.lp_ite, fin_nx, fin_rt, fin_ite, W.cb_bl, if_true, if_false, Bool.false_eq_true, eq_int, ne_int, eq_bl, ne_bl, mx2, mn2, int0, notW, truW, fdiv_ok, mod_ok, mul_okl, add_int, neg_int, int_bl, int_int, listLF_fl, listF_fl, listF_tup, listLF_tup, Int.reduceLT, Int.reduceLE, Int.reduceNeg, decide_true, decide_false, a5]) ?_) ?_
  · refine RL.rt (BL.add (a := 3847) (b := 1) (BL.add (a := 1926) (b := 1921) (BL.add (a := 1923) (b := 3) (BL.add (a := 2) (b := 1921) (BL.two rfl rfl (by decide)) (BL.dig (n := z5) (by simp only [bodyD, pad, sqS, ifS, orB, andB, notB, tb, bn, un, vr, kk, rtS, rnS, exS, orE, andE, chn, ifE, trB, passS, noS, setS, asgS, parS, axc, axn, flE, lsE, tupE, clE, mthE, mkE, lmE, forS, sqI, rg1, rg2, gSb, gFd, setFS, augFS, gNm, gTp, gsC, gsN, augS, augI, bkS, ctS, whS, slE, oxn, oxs, lpS, List.map_cons, List.map_nil, List.length_cons, List.length_nil, List.replicate, List.cons_append, List.nil_append, Nat.reduceAdd, Nat.reduceSub, List.getElem?_cons_succ, List.getElem?_cons_zero, List.set_cons_zero, List.set_cons_succ, R.toS_ok, R.bind_ok, R.toS_ite, R.bind_ite, SR.go_nx, SR.go_rt, SR.go_bk, SR.go_ct, SR.go_ite, SR.lp_nx, SR.lp_rt, SR.lp_bk, SR.lp_ct, SR.lp_ite, fin_nx, fin_rt, fin_ite, W.cb_bl, if_true, if_false, Bool.false_eq_true, eq_int, ne_int, eq_bl, ne_bl, mx2, mn2, int0, notW, truW, fdiv_ok, mod_ok, mul_okl, add_int, neg_int, int_bl, int_int, listLF_fl, listF_fl, listF_tup, listLF_tup, Int.reduceLT, Int.reduceLE, Int.reduceNeg, decide_true, decide_false]) p5.1 p5.2 (by decide)) (by decide) (by decide)) ⟨[59, 53, 59], rfl, by decide⟩ (by decide) (by decide)) (BL.dig (n := x / 16 % 300) (by simp only [bodyD, pad, sqS, ifS, orB, andB, notB, tb, bn, un, vr, kk, rtS, rnS, exS, orE, andE, chn, ifE, trB, passS, noS, setS, asgS, parS, axc, axn, flE, lsE, tupE, clE, mthE, mkE, lmE, forS, sqI, rg1, rg2, gSb, gFd, setFS, augFS, gNm, gTp, gsC, gsN, augS, augI, bkS, ctS, whS, slE, oxn, oxs, lpS, List.map_cons, List.map_nil, List.length_cons, List.length_nil, List.replicate, List.cons_append, List.nil_append, Nat.reduceAdd, Nat.reduceSub, List.getElem?_cons_succ, List.getElem?_cons_zero, List.set_cons_zero, List.set_cons_succ, R.toS_ok, R.bind_ok, R.toS_ite, R.bind_ite, SR.go_nx, SR.go_rt, SR.go_bk, SR.go_ct, SR.go_ite, SR.lp_nx, SR.lp_rt, SR.lp_bk, SR.lp_ct, SR.lp_ite, fin_nx, fin_rt, fin_ite, W.cb_bl, if_true, if_false, Bool.false_eq_true, eq_int, ne_int, eq_bl, ne_bl, mx2, mn2, int0, notW, truW, fdiv_ok, mod_ok, mul_okl, add_int, neg_int, int_bl, int_int, listLF_fl, listF_fl, listF_tup, listLF_tup, Int.reduceLT, Int.reduceLE, Int.reduceNeg, decide_true, decide_false]) (by omega) (by omega) (by decide)) (by decide) (by decide)) (BL.one rfl (by decide)) (by decide) (by decide))
  refine RL.br (by simp only [bodyD, pad, sqS, ifS, orB, andB, notB, tb, bn, un, vr, kk, rtS, rnS, exS, orE, andE, chn, ifE, trB, passS, noS, setS, asgS, parS, axc, axn, flE, lsE, tupE, clE, mthE, mkE, lmE, forS, sqI, rg1, rg2, gSb, gFd, setFS, augFS, gNm, gTp, gsC, gsN, augS, augI, bkS, ctS, whS, slE, oxn, oxs, lpS, List.map_cons, List.map_nil, List.length_cons, List.length_nil, List.replicate, List.cons_append, List.nil_append, Nat.reduceAdd, Nat.reduceSub, List.getElem?_cons_succ, List.getElem?_cons_zero, List.set_cons_zero, List.set_cons_succ, R.toS_ok, R.bind_ok, R.toS_ite, R.bind_ite, SR.go_nx, SR.go_rt, SR.go_bk, SR.go_ct, SR.go_ite, SR.lp_nx, SR.lp_rt, SR.lp_bk, SR.lp_ct, SR.lp_ite, fin_nx, fin_rt, fin_ite, W.cb_bl, if_true, if_false, Bool.false_eq_true, eq_int, ne_int, eq_bl, ne_bl, mx2, mn2, int0, notW, truW, fdiv_ok, mod_ok, mul_okl, add_int, neg_int, int_bl, int_int, listLF_fl, listF_fl, listF_tup, listLF_tup, Int.reduceLT, Int.reduceLE, Int.reduceNeg, decide_true, decide_false]; exact ⟨_, rfl⟩) (RL.rt (BL.add (a := 14) (b := 2) (BL.add (a := 4) (b := 10) ⟨[27, 93, 48 + x % 3, 59], by simp only [bodyD, pad, sqS, ifS, orB, andB, notB, tb, bn, un, vr, kk, rtS, rnS, exS, orE, andE, chn, ifE, trB, passS, noS, setS, asgS, parS, axc, axn, flE, lsE, tupE, clE, mthE, mkE, lmE, forS, sqI, rg1, rg2, gSb, gFd, setFS, augFS, gNm, gTp, gsC, gsN, augS, augI, bkS, ctS, whS, slE, oxn, oxs, lpS, List.map_cons, List.map_nil, List.length_cons, List.length_nil, List.replicate, List.cons_append, List.nil_append, Nat.reduceAdd, Nat.reduceSub, List.getElem?_cons_succ, List.getElem?_cons_zero, List.set_cons_zero, List.set_cons_succ, R.toS_ok, R.bind_ok, R.toS_ite, R.bind_ite, SR.go_nx, SR.go_rt, SR.go_bk, SR.go_ct, SR.go_ite, SR.lp_nx, SR.lp_rt, SR.lp_bk, SR.lp_ct, SR.lp_ite, fin_nx, fin_rt, fin_ite, W.cb_bl, if_true, if_false, Bool.false_eq_true, eq_int, ne_int, eq_bl, ne_bl, mx2, mn2, int0, notW, truW, fdiv_ok, mod_ok, mul_okl, add_int, neg_int, int_bl, int_int, listLF_fl, listF_fl, listF_tup, listLF_tup, Int.reduceLT, Int.reduceLE, Int.reduceNeg, decide_true, decide_false], by simp⟩ (BL.mul (a := 1) (k := x / 180 % 4) (BL.one (k := 60 + x / 3 % 60) (by simp only [bodyD, pad, sqS, ifS, orB, andB, notB, tb, bn, un, vr, kk, rtS, rnS, exS, orE, andE, chn, ifE, trB, passS, noS, setS, asgS, parS, axc, axn, flE, lsE, tupE, clE, mthE, mkE, lmE, forS, sqI, rg1, rg2, gSb, gFd, setFS, augFS, gNm, gTp, gsC, gsN, augS, augI, bkS, ctS, whS, slE, oxn, oxs, lpS, List.map_cons, List.map_nil, List.length_cons, List.length_nil, List.replicate, List.cons_append, List.nil_append, Nat.reduceAdd, Nat.reduceSub, List.getElem?_cons_succ, List.getElem?_cons_zero, List.set_cons_zero, List.set_cons_succ, R.toS_ok, R.bind_ok, R.toS_ite, R.bind_ite, SR.go_nx, SR.go_rt, SR.go_bk, SR.go_ct, SR.go_ite, SR.lp_nx, SR.lp_rt, SR.lp_bk, SR.lp_ct, SR.lp_ite, fin_nx, fin_rt, fin_ite, W.cb_bl, if_true, if_false, Bool.false_eq_true, eq_int, ne_int, eq_bl, ne_bl, mx2, mn2, int0, notW, truW, fdiv_ok, mod_ok, mul_okl, add_int, neg_int, int_bl, int_int, listLF_fl, listF_fl, listF_tup, listLF_tup, Int.reduceLT, Int.reduceLE, Int.reduceNeg, decide_true, decide_false]) (by decide)) (by simp only [bodyD, pad, sqS, ifS, orB, andB, notB, tb, bn, un, vr, kk, rtS, rnS, exS, orE, andE, chn, ifE, trB, passS, noS, setS, asgS, parS, axc, axn, flE, lsE, tupE, clE, mthE, mkE, lmE, forS, sqI, rg1, rg2, gSb, gFd, setFS, augFS, gNm, gTp, gsC, gsN, augS, augI, bkS, ctS, whS, slE, oxn, oxs, lpS, List.map_cons, List.map_nil, List.length_cons, List.length_nil, List.replicate, List.cons_append, List.nil_append, Nat.reduceAdd, Nat.reduceSub, List.getElem?_cons_succ, List.getElem?_cons_zero, List.set_cons_zero, List.set_cons_succ, R.toS_ok, R.bind_ok, R.toS_ite, R.bind_ite, SR.go_nx, SR.go_rt, SR.go_bk, SR.go_ct, SR.go_ite, SR.lp_nx, SR.lp_rt, SR.lp_bk, SR.lp_ct, SR.lp_ite, fin_nx, fin_rt, fin_ite, W.cb_bl, if_true, if_false, Bool.false_eq_true, eq_int, ne_int, eq_bl, ne_bl, mx2, mn2, int0, notW, truW, fdiv_ok, mod_ok, mul_okl, add_int, neg_int, int_bl, int_int, listLF_fl, listF_fl, listF_tup, listLF_tup, Int.reduceLT, Int.reduceLE, Int.reduceNeg, decide_true, decide_false]) (by omega) (by omega) (by decide) (by decide)) (by decide) (by decide)) ?_ (by decide) (by decide))) ?_
  · have h0 : x / 720 % 2 = 0 ∨ x / 720 % 2 = 1 := by omega
    rcases h0 with h0 | h0
    · refine ⟨[7], ?_, by decide⟩
      have ix : ∀ s, ixW (.fl [.fl [.int 7], .fl [.int 27, .int 92]]) (.int 0) s = .ok (.fl [.int 7]) s := fun s => rfl
      simp only [bodyD, pad, sqS, ifS, orB, andB, notB, tb, bn, un, vr, kk, rtS, rnS, exS, orE, andE, chn, ifE, trB, passS, noS, setS, asgS, parS, axc, axn, flE, lsE, tupE, clE, mthE, mkE, lmE, forS, sqI, rg1, rg2, gSb, gFd, setFS, augFS, gNm, gTp, gsC, gsN, augS, augI, bkS, ctS, whS, slE, oxn, oxs, lpS, List.map_cons, List.map_nil, List.length_cons, List.length_nil, List.replicate, List.cons_append, List.nil_append, Nat.reduceAdd, Nat.reduceSub, List.getElem?_cons_succ, List.getElem?_cons_zero, List.set_cons_zero, List.set_cons_succ, R.toS_ok, R.bind_ok, R.toS_ite, R.bind_ite, SR.go_nx, SR.go_rt, SR.go_bk, SR.go_ct, SR.go_ite, SR.lp_nx, SR.lp_rt, SR.lp_bk, SR.lp_ct, SR.lp_ite, fin_nx, fin_rt, fin_ite, W.cb_bl, if_true, if_false, Bool.false_eq_true, eq_int, ne_int, eq_bl, ne_bl, mx2, mn2, int0, notW, truW, fdiv_ok, mod_ok, mul_okl, add_int, neg_int, int_bl, int_int, listLF_fl, listF_fl, listF_tup, listLF_tup, Int.reduceLT, Int.reduceLE, Int.reduceNeg, decide_true, decide_false, h0, ix]
    · refine ⟨[27, 92], ?_, by decide⟩
      have ix : ∀ s, ixW (.fl [.fl [.int 7], .fl [.int 27, .int 92]]) (.int 1) s = .ok (.fl [.int 27, .int 92]) s := fun s => rfl
      simp only [bodyD, pad, sqS, ifS, orB, andB, notB, tb, bn, un, vr, kk, rtS, rnS, exS, orE, andE, chn, ifE, trB, passS, noS, setS, asgS, parS, axc, axn, flE, lsE, tupE, clE, mthE, mkE, lmE, forS, sqI, rg1, rg2, gSb, gFd, setFS, augFS, gNm, gTp, gsC, gsN, augS, augI, bkS, ctS, whS, slE, oxn, oxs, lpS, List.map_cons, List.map_nil, List.length_cons, List.length_nil, List.replicate, List.cons_append, List.nil_append, Nat.reduceAdd, Nat.reduceSub, List.getElem?_cons_succ, List.getElem?_cons_zero, List.set_cons_zero, List.set_cons_succ, R.toS_ok, R.bind_ok, R.toS_ite, R.bind_ite, SR.go_nx, SR.go_rt, SR.go_bk, SR.go_ct, SR.go_ite, SR.lp_nx, SR.lp_rt, SR.lp_bk, SR.lp_ct, SR.lp_ite, fin_nx, fin_rt, fin_ite, W.cb_bl, if_true, if_false, Bool.false_eq_true, eq_int, ne_int, eq_bl, ne_bl, mx2, mn2, int0, notW, truW, fdiv_ok, mod_ok, mul_okl, add_int, neg_int, int_bl, int_int, listLF_fl, listF_fl, listF_tup, listLF_tup, Int.reduceLT, Int.reduceLE, Int.reduceNeg, decide_true, decide_false, h0, ix]
  · exact RL.rt ⟨[x % 256, x / 256 % 256, x / 65536 % 256], by simp only [bodyD, pad, sqS, ifS, orB, andB, notB, tb, bn, un, vr, kk, rtS, rnS, exS, orE, andE, chn, ifE, trB, passS, noS, setS, asgS, parS, axc, axn, flE, lsE, tupE, clE, mthE, mkE, lmE, forS, sqI, rg1, rg2, gSb, gFd, setFS, augFS, gNm, gTp, gsC, gsN, augS, augI, bkS, ctS, whS, slE, oxn, oxs, lpS, List.map_cons, List.map_nil, List.length_cons, List.length_nil, List.replicate, List.cons_append, List.nil_append, Nat.reduceAdd, Nat.reduceSub, List.getElem?_cons_succ, List.getElem?_cons_zero, List.set_cons_zero, List.set_cons_succ, R.toS_ok, R.bind_ok, R.toS_ite, R.bind_ite, SR.go_nx, SR.go_rt, SR.go_bk, SR.go_ct, SR.go_ite, SR.lp_nx, SR.lp_rt, SR.lp_bk, SR.lp_ct, SR.lp_ite, fin_nx, fin_rt, fin_ite, W.cb_bl, if_true, if_false, Bool.false_eq_true, eq_int, ne_int, eq_bl, ne_bl, mx2, mn2, int0, notW, truW, fdiv_ok, mod_ok, mul_okl, add_int, neg_int, int_bl, int_int, listLF_fl, listF_fl, listF_tup, listLF_tup, Int.reduceLT, Int.reduceLE, Int.reduceNeg, decide_true, decide_false], by simp⟩

def b__law_stream_0 : Sx := (setS 2 (bn addW (vr 2) (clE d__law_token (axc (bn ixW (vr 1) (bn modW (bn ixW (vr 4) (bn mulW (kk (.int 2)) (vr 5))) (clE lenF (axc (vr 1) axn)))) (axc (bn ixW (vr 4) (bn addW (bn mulW (kk (.int 2)) (vr 5)) (kk (.int 1)))) axn)))))
def b__law_stream_1 : Sx := (sqS (setS 4 (clE d__law_row (axc (vr 3) (axc (kk (.int 4)) (axc (kk (.int 16777216)) axn))))) (forS (rg1 (axc (kk (.int 2)) axn)) (gNm 5) b__law_stream_0))
/-! _law_stream -/
def r__law_stream : List W → Sto → R W := bodyD 6 (sqS (setS 2 (flE axn)) (sqS (forS (sqI (vr 0)) (gNm 3) b__law_stream_1) (rtS (vr 2))))
abbrev d__law_stream : List W → Sto → R W := r__law_stream
theorem stream_loop {ks : List Int} (hk : ks ≠ []) (hl : ks.length ≤ 1000) (X : W) (s : Sto) : ∀ (cs xs : List Int) (o3 o4 o5 : Option W), xs.length + 7800 * cs.length ≤ 1000000 →
    ∃ (ys : List Int) (p3 p4 p5 : Option W), forL (gNm 3) b__law_stream_1 (cs.map W.int) [some X, some (.fl (ks.map W.int)), some (.fl (xs.map W.int)), o3, o4, o5] s = .nx [some X, some (.fl (ks.map W.int)), some (.fl (ys.map W.int)), p3, p4, p5] s ∧ ys.length ≤ xs.length + 7800 * cs.length
  | [], xs, o3, o4, o5, h => ⟨xs, o3, o4, o5, rfl, by simp⟩
  | c :: cs, xs0, o3, o4, o5, h => by
    rw [List.length_cons] at h
    have rw0 := rowd c 4 16777216 s (by decide) (by decide) (by decide) (by decide)
    have ln := rowL_length c (4 : Int).toNat 16777216
    generalize rowL c (4 : Int).toNat 16777216 = ws at *
    obtain ⟨w0, w1, w2, w3, rfl⟩ : ∃ a b c d, ws = [a, b, c, d] := by
      match ws, ln with
      | [a, b, c, d], _ => exact ⟨a, b, c, d, rfl⟩
    have lk : ∀ s, lenF [.fl (ks.map W.int)] s = .ok (.int (ks.length : Int)) s := fun s => by simp [lenF, seqOf, lstOf]
    have kp : 0 < ks.length := List.length_pos_iff.mpr hk
    have md : ∀ y s, modW (.int y) (.int (ks.length : Int)) s = .ok (.int (y % ks.length)) s := fun y s => mod_ok (by omega)
    have ix : ∀ y s, ixW (.fl (ks.map W.int)) (.int (y % ks.length)) s = .ok (.int (ks.getD (y % ks.length).toNat 0)) s := fun y s => ix_mod hk y _ rfl s
    have i0 : ∀ s, ixW (.fl [.int w0, .int w1, .int w2, .int w3]) (.int 0) s = .ok (.int w0) s := fun s => rfl
    have i1 : ∀ s, ixW (.fl [.int w0, .int w1, .int w2, .int w3]) (.int 1) s = .ok (.int w1) s := fun s => rfl
    have i2 : ∀ s, ixW (.fl [.int w0, .int w1, .int w2, .int w3]) (.int 2) s = .ok (.int w2) s := fun s => rfl
    have i3 : ∀ s, ixW (.fl [.int w0, .int w1, .int w2, .int w3]) (.int 3) s = .ok (.int w3) s := fun s => rfl
    obtain ⟨xs, e1, l1⟩ := token_den (ks.getD (w0 % ks.length).toNat 0) w1 s
    obtain ⟨ys, e2, l2⟩ := token_den (ks.getD (w2 % ks.length).toNat 0) w3 s
    have ad1 : addW (.fl (xs0.map W.int)) (.fl (xs.map W.int)) s = .ok (.fl ((xs0 ++ xs).map W.int)) s := by
      unfold addW
      simp only [lstOf, List.length_map]
      rw [if_pos (ck_iff.mpr (by omega)), List.map_append]
    have ad2 : addW (.fl ((xs0 ++ xs).map W.int)) (.fl (ys.map W.int)) s = .ok (.fl ((xs0 ++ xs ++ ys).map W.int)) s := by
      unfold addW
      simp only [lstOf, List.length_map, List.length_append]
      rw [if_pos (ck_iff.mpr (by omega)), List.map_append (l₁ := xs0 ++ xs)]
    have sm : smI 2 = true := smI_small (by decide) (by decide)
    have tn : (2 : Int).toNat = 2 := rfl
    have rl : rngL 0 2 = [.int 0, .int 1] := rfl
    have z0 : (2 : Int) * 0 = 0 := rfl
    have z1 : (2 : Int) * 1 = 2 := rfl
    have z2 : (2 : Int) + 1 = 3 := rfl
    have z3 : (0 : Int) + 1 = 1 := rfl
    have bd : b__law_stream_1 [some X, some (.fl (ks.map W.int)), some (.fl (xs0.map W.int)), some (.int c), o4, o5] s = .nx [some X, some (.fl (ks.map W.int)), some (.fl ((xs0 ++ xs ++ ys).map W.int)), some (.int c), some (.fl [.int w0, .int w1, .int w2, .int w3]), some (.int 1)] s := by
      unfold b__law_stream_1 b__law_stream_0
      simp only [List.map_cons, List.map_nil] at rw0
      simp only [bodyD, pad, sqS, ifS, orB, andB, notB, tb, bn, un, vr, kk, rtS, rnS, exS, orE, andE, chn, ifE, trB, passS, noS, setS, asgS, parS, axc, axn, flE, lsE, tupE, clE, mthE, mkE, lmE, forS, sqI, rg1, rg2, gSb, gFd, setFS, augFS, gNm, gTp, gsC, gsN, augS, augI, bkS, ctS, whS, slE, oxn, oxs, lpS, List.map_cons, List.map_nil, List.length_cons, List.length_nil, List.replicate, List.cons_append, List.nil_append, Nat.reduceAdd, Nat.reduceSub, List.getElem?_cons_succ, List.getElem?_cons_zero, List.set_cons_zero, List.set_cons_succ, R.toS_ok, R.bind_ok, R.toS_ite, R.bind_ite, SR.go_nx, SR.go_rt, SR.go_bk, SR.go_ct, SR.go_ite, SR.lp_nx, SR.lp_rt, SR.lp_bk, SR.lp_ct, SR.lp_ite, fin_nx, fin_rt, fin_ite, W.cb_bl, if_true, if_false, Bool.false_eq_true, eq_int, ne_int, eq_bl, ne_bl, mx2, mn2, int0, notW, truW, fdiv_ok, mod_ok, mul_okl, add_int, neg_int, int_bl, int_int, listLF_fl, listF_fl, listF_tup, listLF_tup, Int.reduceLT, Int.reduceLE, Int.reduceNeg, decide_true, decide_false, forL, rw0, sm, tn, rl, z0, z1, z2, z3, i0, i1, i2, i3, lk, md, ix, e1, e2, ad1, ad2]
    obtain ⟨zs, p3, p4, p5, e, l⟩ := stream_loop hk hl X s cs (xs0 ++ xs ++ ys) (some (.int c)) (some (.fl [.int w0, .int w1, .int w2, .int w3])) (some (.int 1)) (by rw [List.length_append, List.length_append]; omega)
    rw [List.length_append, List.length_append] at l
    refine ⟨zs, p3, p4, p5, ?_, by rw [List.length_cons]; omega⟩
    rw [List.map_cons]
    unfold forL
    simp only [bodyD, pad, sqS, ifS, orB, andB, notB, tb, bn, un, vr, kk, rtS, rnS, exS, orE, andE, chn, ifE, trB, passS, noS, setS, asgS, parS, axc, axn, flE, lsE, tupE, clE, mthE, mkE, lmE, forS, sqI, rg1, rg2, gSb, gFd, setFS, augFS, gNm, gTp, gsC, gsN, augS, augI, bkS, ctS, whS, slE, oxn, oxs, lpS, List.map_cons, List.map_nil, List.length_cons, List.length_nil, List.replicate, List.cons_append, List.nil_append, Nat.reduceAdd, Nat.reduceSub, List.getElem?_cons_succ, List.getElem?_cons_zero, List.set_cons_zero, List.set_cons_succ, R.toS_ok, R.bind_ok, R.toS_ite, R.bind_ite, SR.go_nx, SR.go_rt, SR.go_bk, SR.go_ct, SR.go_ite, SR.lp_nx, SR.lp_rt, SR.lp_bk, SR.lp_ct, SR.lp_ite, fin_nx, fin_rt, fin_ite, W.cb_bl, if_true, if_false, Bool.false_eq_true, eq_int, ne_int, eq_bl, ne_bl, mx2, mn2, int0, notW, truW, fdiv_ok, mod_ok, mul_okl, add_int, neg_int, int_bl, int_int, listLF_fl, listF_fl, listF_tup, listLF_tup, Int.reduceLT, Int.reduceLE, Int.reduceNeg, decide_true, decide_false]
    rw [bd]
    simp only [bodyD, pad, sqS, ifS, orB, andB, notB, tb, bn, un, vr, kk, rtS, rnS, exS, orE, andE, chn, ifE, trB, passS, noS, setS, asgS, parS, axc, axn, flE, lsE, tupE, clE, mthE, mkE, lmE, forS, sqI, rg1, rg2, gSb, gFd, setFS, augFS, gNm, gTp, gsC, gsN, augS, augI, bkS, ctS, whS, slE, oxn, oxs, lpS, List.map_cons, List.map_nil, List.length_cons, List.length_nil, List.replicate, List.cons_append, List.nil_append, Nat.reduceAdd, Nat.reduceSub, List.getElem?_cons_succ, List.getElem?_cons_zero, List.set_cons_zero, List.set_cons_succ, R.toS_ok, R.bind_ok, R.toS_ite, R.bind_ite, SR.go_nx, SR.go_rt, SR.go_bk, SR.go_ct, SR.go_ite, SR.lp_nx, SR.lp_rt, SR.lp_bk, SR.lp_ct, SR.lp_ite, fin_nx, fin_rt, fin_ite, W.cb_bl, if_true, if_false, Bool.false_eq_true, eq_int, ne_int, eq_bl, ne_bl, mx2, mn2, int0, notW, truW, fdiv_ok, mod_ok, mul_okl, add_int, neg_int, int_bl, int_int, listLF_fl, listF_fl, listF_tup, listLF_tup, Int.reduceLT, Int.reduceLE, Int.reduceNeg, decide_true, decide_false]
    exact e
theorem stream_den {ks : List Int} (hk : ks ≠ []) (hl : ks.length ≤ 1000) (cs : List Int) (hc : cs.length ≤ 40) (s : Sto) : ∃ xs : List Int, r__law_stream [.fl (cs.map W.int), .fl (ks.map W.int)] s = .ok (.fl (xs.map W.int)) s ∧ xs.length ≤ 312000 := by
  obtain ⟨ys, p3, p4, p5, e, l⟩ := stream_loop hk hl (.fl (cs.map W.int)) s cs [] none none none (by simp; omega)
  refine ⟨ys, ?_, by simp at l; omega⟩
  unfold r__law_stream
  refine body_of ?_
  rw [sq_nx (e := [some (.fl (cs.map W.int)), some (.fl (ks.map W.int)), some (.fl (([] : List Int).map W.int)), none, none, none]) (s := s) (by simp only [bodyD, pad, sqS, ifS, orB, andB, notB, tb, bn, un, vr, kk, rtS, rnS, exS, orE, andE, chn, ifE, trB, passS, noS, setS, asgS, parS, axc, axn, flE, lsE, tupE, clE, mthE, mkE, lmE, forS, sqI, rg1, rg2, gSb, gFd, setFS, augFS, gNm, gTp, gsC, gsN, augS, augI, bkS, ctS, whS, slE, oxn, oxs, lpS, List.map_cons, List.map_nil, List.length_cons, List.length_nil, List.replicate, List.cons_append, List.nil_append, Nat.reduceAdd, Nat.reduceSub, List.getElem?_cons_succ, List.getElem?_cons_zero, List.set_cons_zero, List.set_cons_succ, R.toS_ok, R.bind_ok, R.toS_ite, R.bind_ite, SR.go_nx, SR.go_rt, SR.go_bk, SR.go_ct, SR.go_ite, SR.lp_nx, SR.lp_rt, SR.lp_bk, SR.lp_ct, SR.lp_ite, fin_nx, fin_rt, fin_ite, W.cb_bl, if_true, if_false, Bool.false_eq_true, eq_int, ne_int, eq_bl, ne_bl, mx2, mn2, int0, notW, truW, fdiv_ok, mod_ok, mul_okl, add_int, neg_int, int_bl, int_int, listLF_fl, listF_fl, listF_tup, listLF_tup, Int.reduceLT, Int.reduceLE, Int.reduceNeg, decide_true, decide_false, pad])]
  rw [sq_nx (e := [some (.fl (cs.map W.int)), some (.fl (ks.map W.int)), some (.fl (ys.map W.int)), p3, p4, p5]) (s := s) (by simp only [bodyD, pad, sqS, ifS, orB, andB, notB, tb, bn, un, vr, kk, rtS, rnS, exS, orE, andE, chn, ifE, trB, passS, noS, setS, asgS, parS, axc, axn, flE, lsE, tupE, clE, mthE, mkE, lmE, forS, sqI, rg1, rg2, gSb, gFd, setFS, augFS, gNm, gTp, gsC, gsN, augS, augI, bkS, ctS, whS, slE, oxn, oxs, lpS, List.map_cons, List.map_nil, List.length_cons, List.length_nil, List.replicate, List.cons_append, List.nil_append, Nat.reduceAdd, Nat.reduceSub, List.getElem?_cons_succ, List.getElem?_cons_zero, List.set_cons_zero, List.set_cons_succ, R.toS_ok, R.bind_ok, R.toS_ite, R.bind_ite, SR.go_nx, SR.go_rt, SR.go_bk, SR.go_ct, SR.go_ite, SR.lp_nx, SR.lp_rt, SR.lp_bk, SR.lp_ct, SR.lp_ite, fin_nx, fin_rt, fin_ite, W.cb_bl, if_true, if_false, Bool.false_eq_true, eq_int, ne_int, eq_bl, ne_bl, mx2, mn2, int0, notW, truW, fdiv_ok, mod_ok, mul_okl, add_int, neg_int, int_bl, int_int, listLF_fl, listF_fl, listF_tup, listLF_tup, Int.reduceLT, Int.reduceLE, Int.reduceNeg, decide_true, decide_false]; exact e)]
  simp only [bodyD, pad, sqS, ifS, orB, andB, notB, tb, bn, un, vr, kk, rtS, rnS, exS, orE, andE, chn, ifE, trB, passS, noS, setS, asgS, parS, axc, axn, flE, lsE, tupE, clE, mthE, mkE, lmE, forS, sqI, rg1, rg2, gSb, gFd, setFS, augFS, gNm, gTp, gsC, gsN, augS, augI, bkS, ctS, whS, slE, oxn, oxs, lpS, List.map_cons, List.map_nil, List.length_cons, List.length_nil, List.replicate, List.cons_append, List.nil_append, Nat.reduceAdd, Nat.reduceSub, List.getElem?_cons_succ, List.getElem?_cons_zero, List.set_cons_zero, List.set_cons_succ, R.toS_ok, R.bind_ok, R.toS_ite, R.bind_ite, SR.go_nx, SR.go_rt, SR.go_bk, SR.go_ct, SR.go_ite, SR.lp_nx, SR.lp_rt, SR.lp_bk, SR.lp_ct, SR.lp_ite, fin_nx, fin_rt, fin_ite, W.cb_bl, if_true, if_false, Bool.false_eq_true, eq_int, ne_int, eq_bl, ne_bl, mx2, mn2, int0, notW, truW, fdiv_ok, mod_ok, mul_okl, add_int, neg_int, int_bl, int_int, listLF_fl, listF_fl, listF_tup, listLF_tup, Int.reduceLT, Int.reduceLE, Int.reduceNeg, decide_true, decide_false]

def b_law_0 : Sx := (sqS (setS 9 (mthE 0 d_Parser_take (vr 5) (axc (clE listF (axc (vr 8) axn)) axn))) (sqS (setS 7 (bn addW (vr 7) (vr 9))) (sqS (exS (lmE appF (vr 9) (axc (tupE (axc (kk (.str "print")) (axc (kk (.int 7)) axn))) axn))) (exS (mthE 0 d_Parser_take (vr 6) (axc (flE (axc (kk (.int 27)) (axc (kk (.int 93)) (axc (kk (.int 200)) (axc (kk (.int 91)) (axc (kk (.int 50)) axn)))))) axn))))))
def t_law_0 : Sx := (setS 1 (clE d__law_stream (axc (slE slF (vr 0) oxn (oxs (kk (.int 40)))) (axc (flE (axc (kk (.int 0)) (axc (kk (.int 5)) (axc (kk (.int 6)) (axc (kk (.int 7)) (axc (kk (.int 8)) (axc (kk (.int 12)) (axc (kk (.int 13)) (axc (kk (.int 14)) (axc (kk (.int 15)) (axc (kk (.int 16)) (axc (kk (.int 16)) (axc (kk (.int 16)) axn))))))))))))) axn))))
def t_law_1 : Sx := (setS 2 (clE d__law_cuts (axc (vr 1) (axc (slE slF (vr 0) (oxs (kk (.int 40))) (oxs (kk (.int 63)))) axn))))
def t_law_2 : Sx := (setS 3 (mkE 0 10 d_Parser_init axn))
def t_law_3 : Sx := (setS 4 (mthE 0 d_Parser_take (vr 3) (axc (clE listF (axc (vr 1) axn)) axn)))
def t_law_4 : Sx := (setS 5 (mkE 0 10 d_Parser_init axn))
def t_law_5 : Sx := (setS 6 (mkE 0 10 d_Parser_init axn))
def t_law_6 : Sx := (setS 7 (flE axn))
def t_law_7 : Sx := (forS (sqI (vr 2)) (gNm 8) b_law_0)
def t_law_8 : Sx := (rtS (andE (bn eqW (vr 7) (vr 4)) (bn eqW (mthE 0 d_Parser_resting (vr 5) axn) (mthE 0 d_Parser_resting (vr 3) axn))))
/-! law -/
def r_law : List W → Sto → R W := bodyD 10 (sqS t_law_0 (sqS t_law_1 (sqS t_law_2 (sqS t_law_3 (sqS t_law_4 (sqS t_law_5 (sqS t_law_6 (sqS t_law_7 t_law_8))))))))
abbrev d_law : List W → Sto → R W := r_law
theorem takeP_app : ∀ (a b : List Int) (p : PS), takeP p (a ++ b) = ((takeP (takeP p a).1 b).1, (takeP p a).2 ++ (takeP (takeP p a).1 b).2)
  | [], b, p => rfl
  | x :: a, b, p => by
    rw [List.cons_append]
    simp only [takeP, takeP_app a b, List.append_assoc]
theorem takeP_len : ∀ (a : List Int) (p : PS), (takeP p a).2.length ≤ 2 * a.length
  | [], p => Nat.le_refl _
  | x :: a, p => by
    have h1 := takeP_len a (stepP (if brokenP p x = true then { p with missing := 0 } else p) x).1
    have h2 := step_len (if brokenP p x = true then { p with missing := 0 } else p) x
    have h3 : (if brokenP p x = true then [Act.print 65533] else []).length ≤ 1 := by split <;> simp
    simp only [takeP, List.length_append, List.length_cons]
    omega
theorem good0 : PGood P0 := ⟨fun z => absurd rfl z, by simp [P0], by simp [P0], by simp [P0]⟩
/-- two parsers at places from B on, all below as it was -/
structure Two (s0 s : Sto) (B l n m l' n' m' : Nat) (p o : PS) : Prop where
  a : PAt s l n m p
  ga : PGood p
  b : PAt s l' n' m' o
  gb : PGood o
  lo : B ≤ l ∧ B ≤ n ∧ B ≤ m ∧ B ≤ l' ∧ B ≤ n' ∧ B ≤ m'
  ne : l ≠ l' ∧ l ≠ n' ∧ l ≠ m' ∧ n ≠ l' ∧ n ≠ n' ∧ n ≠ m' ∧ m ≠ l' ∧ m ≠ n' ∧ m ≠ m'
  keep : ∀ i, i < B → s[i]? = s0[i]?
theorem Two.swap {s0 s : Sto} {B l n m l' n' m' : Nat} {p o : PS} (h : Two s0 s B l n m l' n' m' p o) : Two s0 s B l' n' m' l n m o p := by
  obtain ⟨z1, z2, z3, z4, z5, z6⟩ := h.lo
  obtain ⟨y1, y2, y3, y4, y5, y6, y7, y8, y9⟩ := h.ne
  exact ⟨h.b, h.gb, h.a, h.ga, ⟨z4, z5, z6, z1, z2, z3⟩, ⟨y1.symm, y4.symm, y7.symm, y2.symm, y5.symm, y8.symm, y3.symm, y6.symm, y9.symm⟩, h.keep⟩
theorem Two.take {s0 s : Sto} {B l n m l' n' m' : Nat} {p o : PS} (h : Two s0 s B l n m l' n' m' p o) (bs : List Int) (hl : bs.length ≤ 400000) :
    ∃ s1 n1 m1, r_Parser_take [.loc l, .fl (bs.map W.int)] s = .ok (.loc s.length) s1 ∧ Two s0 s1 B l n1 m1 l' n' m' (takeP p bs).1 o ∧ s1[s.length]? = some (.lst ((takeP p bs).2.map actW)) ∧ s.length < s1.length ∧ s.length ≠ n1 ∧ s.length ≠ m1 := by
  obtain ⟨s1, n1, m1, e, a1, g1, x1, l1, f1, f2, k⟩ := take_den (bs := bs) h.a h.ga hl
  obtain ⟨z1, z2, z3, z4, z5, z6⟩ := h.lo
  obtain ⟨y1, y2, y3, y4, y5, y6, y7, y8, y9⟩ := h.ne
  obtain ⟨u1, u2, u3⟩ := h.b.lt
  obtain ⟨v1, v2, v3⟩ := h.a.lt
  refine ⟨s1, n1, m1, e, ⟨a1, g1, ?_, h.gb, by omega, by omega, fun i hi => ?_⟩, x1, l1, by omega, by omega⟩
  · exact ⟨by rw [k _ u1 (by omega) (by omega) (by omega)]; exact h.b.ob, by rw [k _ u2 (by omega) (by omega) (by omega)]; exact h.b.ns, by rw [k _ u3 (by omega) (by omega) (by omega)]; exact h.b.ss, h.b.n1, h.b.n2, h.b.n3⟩
  · rw [k i (by omega) (by omega) (by omega) (by omega)]
    exact h.keep i hi
theorem Two.other {s0 s : Sto} {B l n m l' n' m' x : Nat} {p o : PS} (h : Two s0 s B l n m l' n' m' p o) (y : O) (hx : B ≤ x) (h1 : x ≠ l) (h2 : x ≠ n) (h3 : x ≠ m) (h4 : x ≠ l') (h5 : x ≠ n') (h6 : x ≠ m') : Two s0 (s.set x y) B l n m l' n' m' p o :=
  ⟨h.a.other y h1 h2 h3, h.ga, h.b.other y h4 h5 h6, h.gb, h.lo, h.ne, fun i hi => by rw [List.getElem?_set_ne (by omega)]; exact h.keep i hi⟩
theorem law_piece {s0 s : Sto} {B l n m l' n' m' : Nat} {p o : PS} {w0 w1 w2 w3 w4 o9 : Option W} {acc : List Act} {bs : List Int} (h : Two s0 s B l n m l' n' m' p o) (hl : bs.length ≤ 400000) (ha : acc.length ≤ 1000000) (hB : B ≤ s.length) :
    ∃ s1 n1 m1 n2 m2 q9 o', b_law_0 [w0, w1, w2, w3, w4, some (.loc l), some (.loc l'), some (.fl (acc.map actW)), some (.fl (bs.map W.int)), o9] s =
      .nx [w0, w1, w2, w3, w4, some (.loc l), some (.loc l'), some (.fl ((acc ++ (takeP p bs).2).map actW)), some (.fl (bs.map W.int)), q9] s1 ∧ Two s0 s1 B l n1 m1 l' n2 m2 (takeP p bs).1 o' ∧ s.length ≤ s1.length := by
  obtain ⟨s1, n1, m1, e1, t1, x1, le1, q1, q2⟩ := h.take bs hl
  have tl := takeP_len bs p
  have ad : addW (.fl (acc.map actW)) (.loc s.length) s1 = .ok (.fl ((acc ++ (takeP p bs).2).map actW)) s1 := by
    unfold addW
    simp only [lstOf, x1, List.length_map]
    rw [if_pos (ck_iff.mpr (by omega)), List.map_append]
  have lk : lstK s1 (.loc s.length) = some ((takeP p bs).2.map actW) := by simp only [lstK, lstOf, x1]
  have ap := app_at (w := actW (.print 7)) x1 (by rw [List.length_map]; omega)
  simp only [actW] at ap
  obtain ⟨v1, v2, v3⟩ := h.a.lt
  obtain ⟨u1, u2, u3⟩ := h.b.lt
  have t2 := t1.other (x := s.length) (.lst ((takeP p bs).2.map actW ++ [.tup [.str "print", .int 7]])) hB (by omega) q1 q2 (by omega) (by omega) (by omega)
  obtain ⟨s3, n3, m3, e3, t3, x3, le3, _, _⟩ := t2.swap.take [27, 93, 200, 91, 50] (by decide)
  have isI : isIns 0 (.loc l) s = true := by simp only [isIns, h.a.ob]; rfl
  have isJ : isIns 0 (.loc l') (s1.set s.length (.lst ((takeP p bs).2.map actW ++ [.tup [.str "print", .int 7]]))) = true := by simp only [isIns, t2.b.ob]; rfl
  refine ⟨s3, n1, m1, n3, m3, some (.loc s.length), _, ?_, t3.swap, by rw [List.length_set] at le3; omega⟩
  simp only [List.map_cons, List.map_nil] at e3
  unfold b_law_0
  simp only [bodyD, pad, sqS, ifS, orB, andB, notB, tb, bn, un, vr, kk, rtS, rnS, exS, orE, andE, chn, ifE, trB, passS, noS, setS, asgS, parS, axc, axn, flE, lsE, tupE, clE, mthE, mkE, lmE, forS, sqI, rg1, rg2, gSb, gFd, setFS, augFS, gNm, gTp, gsC, gsN, augS, augI, bkS, ctS, whS, slE, oxn, oxs, lpS, List.map_cons, List.map_nil, List.length_cons, List.length_nil, List.replicate, List.cons_append, List.nil_append, Nat.reduceAdd, Nat.reduceSub, List.getElem?_cons_succ, List.getElem?_cons_zero, List.set_cons_zero, List.set_cons_succ, R.toS_ok, R.bind_ok, R.toS_ite, R.bind_ite, SR.go_nx, SR.go_rt, SR.go_bk, SR.go_ct, SR.go_ite, SR.lp_nx, SR.lp_rt, SR.lp_bk, SR.lp_ct, SR.lp_ite, fin_nx, fin_rt, fin_ite, W.cb_bl, if_true, if_false, Bool.false_eq_true, eq_int, ne_int, eq_bl, ne_bl, mx2, mn2, int0, notW, truW, fdiv_ok, mod_ok, mul_okl, add_int, neg_int, int_bl, int_int, listLF_fl, listF_fl, listF_tup, listLF_tup, Int.reduceLT, Int.reduceLE, Int.reduceNeg, decide_true, decide_false, isI, e1, ad, lk, ap, isJ, e3]
theorem law_loop {B y : Nat} {s0 : Sto} {w0 w1 w2 w3 w4 : Option W} {l l' : Nat} (hy : y < B) : ∀ (k : Nat) (pre t : List (List Int)) (s : Sto) (n m n' m' : Nat) (p o : PS) (acc : List Act) (o8 o9 : Option W), Two s0 s B l n m l' n' m' p o → B ≤ s.length → s0[y]? = some (.lst ((pre ++ t).map flW)) → t.length < k → acc.length + 2 * t.flatten.length ≤ 1000000 → t.flatten.length ≤ 400000 →
    ∃ s1 n1 m1 n2 m2 q8 q9 o', forF (fun i st' => (lstOf st' (.loc y)).map fun ws => ws[i]?.map fun w => w) (gNm 8) b_law_0 k pre.length [w0, w1, w2, w3, w4, some (.loc l), some (.loc l'), some (.fl (acc.map actW)), o8, o9] s =
      .nx [w0, w1, w2, w3, w4, some (.loc l), some (.loc l'), some (.fl ((acc ++ (takeP p t.flatten).2).map actW)), q8, q9] s1 ∧ Two s0 s1 B l n1 m1 l' n2 m2 (takeP p t.flatten).1 o'
  | 0, _, _, _, _, _, _, _, _, _, _, _, _, _, _, _, z, _, _ => absurd z (by omega)
  | k + 1, pre, [], s, n, m, n', m', p, o, acc, o8, o9, h, hB, h0, hk, _, _ => by
    have : (lstOf s (.loc y)).map (fun ws => ws[pre.length]?.map fun w => w) = some none := by
      simp [lstOf, h.keep y hy, h0]
    refine ⟨s, n, m, n', m', o8, o9, o, ?_, h⟩
    unfold forF
    simp only [this]
    simp [takeP]
  | k + 1, pre, bs :: t, s, n, m, n', m', p, o, acc, o8, o9, h, hB, h0, hk, ha, hl => by
    rw [List.length_cons] at hk
    rw [List.flatten_cons, List.length_append] at ha hl
    have a1 : (lstOf s (.loc y)).map (fun ws => ws[pre.length]?.map fun w => w) = some (some (.fl (bs.map W.int))) := by
      simp [lstOf, h.keep y hy, h0]
    have pl : pre.length + 1 = (pre ++ [bs]).length := by simp
    have tl := takeP_len bs p
    obtain ⟨s1, n1, m1, n2, m2, q9, o', e1, t1, le⟩ := law_piece (w0 := w0) (w1 := w1) (w2 := w2) (w3 := w3) (w4 := w4) (o9 := o9) (acc := acc) (bs := bs) h (by omega) (by omega) hB
    obtain ⟨s2, n3, m3, n4, m4, q8, q99, o2, e2, t2⟩ := law_loop hy k (pre ++ [bs]) t s1 n1 m1 n2 m2 _ o' (acc ++ (takeP p bs).2) (some (.fl (bs.map W.int))) q9 t1 (by omega) (by rw [h0, List.append_assoc]; rfl) (by omega) (by rw [List.length_append]; omega) (by omega)
    rw [List.flatten_cons, takeP_app]
    refine ⟨s2, n3, m3, n4, m4, q8, q99, o2, ?_, t2⟩
    unfold forF
    simp only [a1]
    simp only [bodyD, pad, sqS, ifS, orB, andB, notB, tb, bn, un, vr, kk, rtS, rnS, exS, orE, andE, chn, ifE, trB, passS, noS, setS, asgS, parS, axc, axn, flE, lsE, tupE, clE, mthE, mkE, lmE, forS, sqI, rg1, rg2, gSb, gFd, setFS, augFS, gNm, gTp, gsC, gsN, augS, augI, bkS, ctS, whS, slE, oxn, oxs, lpS, List.map_cons, List.map_nil, List.length_cons, List.length_nil, List.replicate, List.cons_append, List.nil_append, Nat.reduceAdd, Nat.reduceSub, List.getElem?_cons_succ, List.getElem?_cons_zero, List.set_cons_zero, List.set_cons_succ, R.toS_ok, R.bind_ok, R.toS_ite, R.bind_ite, SR.go_nx, SR.go_rt, SR.go_bk, SR.go_ct, SR.go_ite, SR.lp_nx, SR.lp_rt, SR.lp_bk, SR.lp_ct, SR.lp_ite, fin_nx, fin_rt, fin_ite, W.cb_bl, if_true, if_false, Bool.false_eq_true, eq_int, ne_int, eq_bl, ne_bl, mx2, mn2, int0, notW, truW, fdiv_ok, mod_ok, mul_okl, add_int, neg_int, int_bl, int_int, listLF_fl, listF_fl, listF_tup, listLF_tup, Int.reduceLT, Int.reduceLE, Int.reduceNeg, decide_true, decide_false]
    rw [e1, pl]
    simp only [bodyD, pad, sqS, ifS, orB, andB, notB, tb, bn, un, vr, kk, rtS, rnS, exS, orE, andE, chn, ifE, trB, passS, noS, setS, asgS, parS, axc, axn, flE, lsE, tupE, clE, mthE, mkE, lmE, forS, sqI, rg1, rg2, gSb, gFd, setFS, augFS, gNm, gTp, gsC, gsN, augS, augI, bkS, ctS, whS, slE, oxn, oxs, lpS, List.map_cons, List.map_nil, List.length_cons, List.length_nil, List.replicate, List.cons_append, List.nil_append, Nat.reduceAdd, Nat.reduceSub, List.getElem?_cons_succ, List.getElem?_cons_zero, List.set_cons_zero, List.set_cons_succ, R.toS_ok, R.bind_ok, R.toS_ite, R.bind_ite, SR.go_nx, SR.go_rt, SR.go_bk, SR.go_ct, SR.go_ite, SR.lp_nx, SR.lp_rt, SR.lp_bk, SR.lp_ct, SR.lp_ite, fin_nx, fin_rt, fin_ite, W.cb_bl, if_true, if_false, Bool.false_eq_true, eq_int, ne_int, eq_bl, ne_bl, mx2, mn2, int0, notW, truW, fdiv_ok, mod_ok, mul_okl, add_int, neg_int, int_bl, int_int, listLF_fl, listF_fl, listF_tup, listLF_tup, Int.reduceLT, Int.reduceLE, Int.reduceNeg, decide_true, decide_false]
    rw [← List.append_assoc]
    exact e2
theorem eq_at {α : Type} [DecidableEq α] (c : Cod α) (hn : c.n ≤ 60) {s : Sto} {x y : W} {xs ys : List α} (h1 : lstOf s x = some (xs.map c.w)) (h2 : lstOf s y = some (ys.map c.w)) : eqW x y s = .ok (.bl (decide (xs = ys))) s := by
  have sh : ∀ xs : List α, SeqAt.shaped (.list (xs.map c.d)) = true := fun xs => by
    unfold SeqAt.shaped
    rw [Bool.and_eq_true]
    refine ⟨(cLst c).lay xs, decide_eq_true (Nat.le_trans ((cLst c).dep xs) ?_)⟩
    show c.n + 1 ≤ _
    omega
  have ev : PyData.eqv (.list (xs.map c.d)) (.list (ys.map c.d)) = decide (xs = ys) := (cLst c).eqv xs ys
  simp only [eqW, dat_at c h1, dat_at c h2, sh, ev, and_self, if_true]
theorem init_at (s : Sto) : PAt (s ++ [O.ins 0 (pf P0 (s.length + 1) (s.length + 2)), O.lst [.int 0], O.lst []]) s.length (s.length + 1) (s.length + 2) P0 := ⟨by simp, by simp [P0], by simp [P0], by omega, by omega, by omega⟩
theorem law_true : ∀ ns : List Int, ns.length ≤ 63 → ∃ st', r_law [.kl (ns.map W.int)] [] = .ok (.bl true) st' := by
  intro ns hl
  obtain ⟨c1, k1, cl1⟩ : ∃ cs : List Int, slF (.kl (ns.map W.int)) none (some 40) [] = .ok (.fl (cs.map W.int)) [] ∧ cs.length ≤ 40 := by
    refine ⟨ns.take 40, ?_, by rw [List.length_take]; omega⟩
    have := cutL_to (ns.map W.int) 40
    rw [show ((40 : Nat) : Int) = 40 from rfl] at this
    simp only [slF, lstK]
    rw [this, ← List.map_take]
  obtain ⟨ds, e1, l1⟩ := stream_den (ks := [0, 5, 6, 7, 8, 12, 13, 14, 15, 16, 16, 16]) (by decide) (by decide) c1 cl1 []
  obtain ⟨c2, k2, cl2⟩ : ∃ cs : List Int, slF (.kl (ns.map W.int)) (some 40) (some 63) [] = .ok (.fl (cs.map W.int)) [] ∧ cs.length ≤ 100 := by
    refine ⟨(ns.take 63).drop 40, ?_, by rw [List.length_drop, List.length_take]; omega⟩
    have := cut_both (ns.map W.int) 40 63
    rw [show ((40 : Nat) : Int) = 40 from rfl, show ((63 : Nat) : Int) = 63 from rfl] at this
    simp only [slF, lstK]
    rw [this, ← List.map_take, ← List.map_drop]
  obtain ⟨ps, e2, f2, l2⟩ := cuts_den ds c2 cl2 []
  generalize hX : W.kl (ns.map W.int) = X at *
  simp only [List.length_nil, List.nil_append] at e2
  -- the whole one
  have i1 := init_den [O.lst (ps.map flW)]
  have pa := init_at [O.lst (ps.map flW)]
  have y1 : ([O.lst (ps.map flW)] ++ [O.ins 0 (pf P0 ([O.lst (ps.map flW)].length + 1) ([O.lst (ps.map flW)].length + 2)), O.lst [.int 0], O.lst []] : Sto)[0]? = some (O.lst (ps.map flW)) := rfl
  simp only [List.length_cons, List.length_nil, Nat.zero_add] at i1 pa y1
  have ln3 : ([O.lst (ps.map flW)] ++ [O.ins 0 (pf P0 (1 + 1) (1 + 2)), O.lst [.int 0], O.lst []] : Sto).length = 4 := rfl
  generalize hs1 : ([O.lst (ps.map flW)] ++ [O.ins 0 (pf P0 (1 + 1) (1 + 2)), O.lst [.int 0], O.lst []] : Sto) = s1 at *
  obtain ⟨s2, n2, m2, e3, pb, pg, hx, g1, g2, g3, g4⟩ := take_den (bs := ds) pa good0 (by omega)
  have y2 : s2[0]? = some (O.lst (ps.map flW)) := by rw [g4 0 (by omega) (by omega) (by omega) (by omega)]; exact y1
  -- the two others
  have i2 := init_den s2
  have qa := init_at s2
  have j2 : ∀ i, i < s2.length → (s2 ++ [O.ins 0 (pf P0 (s2.length + 1) (s2.length + 2)), O.lst [.int 0], O.lst []])[i]? = s2[i]? := fun i hi => List.getElem?_append_left hi
  have ln4 : (s2 ++ [O.ins 0 (pf P0 (s2.length + 1) (s2.length + 2)), O.lst [.int 0], O.lst []]).length = s2.length + 3 := by simp
  generalize hs3 : s2 ++ [O.ins 0 (pf P0 (s2.length + 1) (s2.length + 2)), O.lst [.int 0], O.lst []] = s3 at *
  have i3 := init_den s3
  have ra := init_at s3
  have j3 : ∀ i, i < s3.length → (s3 ++ [O.ins 0 (pf P0 (s3.length + 1) (s3.length + 2)), O.lst [.int 0], O.lst []])[i]? = s3[i]? := fun i hi => List.getElem?_append_left hi
  have ln5 : (s3 ++ [O.ins 0 (pf P0 (s3.length + 1) (s3.length + 2)), O.lst [.int 0], O.lst []]).length = s3.length + 3 := by simp
  generalize hs4 : s3 ++ [O.ins 0 (pf P0 (s3.length + 1) (s3.length + 2)), O.lst [.int 0], O.lst []] = s4 at *
  have two : Two s2 s4 s2.length s2.length (s2.length + 1) (s2.length + 2) s3.length (s3.length + 1) (s3.length + 2) P0 P0 :=
    ⟨⟨by rw [j3 _ (by omega)]; exact qa.ob, by rw [j3 _ (by omega)]; exact qa.ns, by rw [j3 _ (by omega)]; exact qa.ss, qa.n1, qa.n2, qa.n3⟩, good0, ra, good0, by omega, by omega, fun i hi => by rw [j3 i (by omega), j2 i hi]⟩
  have hp0 : 0 < s2.length := by omega
  obtain ⟨s5, n5, m5, n6, m6, q8, q9, o6, e5, t5⟩ := law_loop (w0 := some X) (w1 := some (flW ds)) (w2 := some (.loc 0)) (w3 := some (.loc 1)) (w4 := some (.loc s1.length)) hp0 (ps.length + 1) [] ps s4 _ _ _ _ P0 P0 [] none none two (by omega) y2 (by omega) (by rw [f2]; simp; omega) (by rw [f2]; omega)
  rw [f2, List.nil_append] at e5
  rw [f2] at t5
  have sr : srcL (fun _ w => w) (.loc 0) s4 = some (.dy (ps.length + 1) fun i st' => (lstOf st' (.loc 0)).map fun ws => ws[i]?.map fun w => w) := by
    have : s4[0]? = some (O.lst (ps.map flW)) := by rw [two.keep 0 hp0]; exact y2
    simp only [srcL, lstOf, this, List.length_map]
  have hx5 : s5[s1.length]? = some (.lst ((takeP P0 ds).2.map actW)) := by rw [t5.keep _ (by omega)]; exact hx
  obtain ⟨v1, v2, v3⟩ := pb.lt
  have pb5 : PAt s5 1 n2 m2 (takeP P0 ds).1 := ⟨by rw [t5.keep _ v1]; exact pb.ob, by rw [t5.keep _ v2]; exact pb.ns, by rw [t5.keep _ v3]; exact pb.ss, pb.n1, pb.n2, pb.n3⟩
  have eq1 : eqW (.fl ((takeP P0 ds).2.map actW)) (.loc s1.length) s5 = .ok (.bl true) s5 := by
    rw [eq_at cAct (by decide) (xs := (takeP P0 ds).2) (ys := (takeP P0 ds).2) rfl (by simp only [lstOf, hx5]; rfl), decide_eq_true rfl]
  have r1 := resting_den pb5
  have r2 := resting_den t5.a
  have isA : isIns 0 (.loc 1) s1 = true := by simp only [isIns, pa.ob]; rfl
  have isB : isIns 0 (.loc 1) s5 = true := by simp only [isIns, pb5.ob]; rfl
  have isC : isIns 0 (.loc s2.length) s5 = true := by simp only [isIns, t5.a.ob]; rfl
  simp only [List.replicate, List.cons_append, List.nil_append] at i1
  simp only [List.replicate] at i2 i3
  refine ⟨s5, ?_⟩
  unfold r_law
  refine body_of ?_
  show (sqS t_law_0 _) [some X, none, none, none, none, none, none, none, none, none] [] = _
  simp only [List.map_cons, List.map_nil] at e1
  rw [sq_nx (e := [some X, some (flW ds), none, none, none, none, none, none, none, none]) (s := []) (by unfold t_law_0; simp only [bodyD, pad, sqS, ifS, orB, andB, notB, tb, bn, un, vr, kk, rtS, rnS, exS, orE, andE, chn, ifE, trB, passS, noS, setS, asgS, parS, axc, axn, flE, lsE, tupE, clE, mthE, mkE, lmE, forS, sqI, rg1, rg2, gSb, gFd, setFS, augFS, gNm, gTp, gsC, gsN, augS, augI, bkS, ctS, whS, slE, oxn, oxs, lpS, List.map_cons, List.map_nil, List.length_cons, List.length_nil, List.replicate, List.cons_append, List.nil_append, Nat.reduceAdd, Nat.reduceSub, List.getElem?_cons_succ, List.getElem?_cons_zero, List.set_cons_zero, List.set_cons_succ, R.toS_ok, R.bind_ok, R.toS_ite, R.bind_ite, SR.go_nx, SR.go_rt, SR.go_bk, SR.go_ct, SR.go_ite, SR.lp_nx, SR.lp_rt, SR.lp_bk, SR.lp_ct, SR.lp_ite, fin_nx, fin_rt, fin_ite, W.cb_bl, if_true, if_false, Bool.false_eq_true, eq_int, ne_int, eq_bl, ne_bl, mx2, mn2, int0, notW, truW, fdiv_ok, mod_ok, mul_okl, add_int, neg_int, int_bl, int_int, listLF_fl, listF_fl, listF_tup, listLF_tup, Int.reduceLT, Int.reduceLE, Int.reduceNeg, decide_true, decide_false, k1, e1])]
  rw [sq_nx (e := [some X, some (flW ds), some (.loc 0), none, none, none, none, none, none, none]) (s := [O.lst (ps.map flW)]) (by unfold t_law_1; simp only [bodyD, pad, sqS, ifS, orB, andB, notB, tb, bn, un, vr, kk, rtS, rnS, exS, orE, andE, chn, ifE, trB, passS, noS, setS, asgS, parS, axc, axn, flE, lsE, tupE, clE, mthE, mkE, lmE, forS, sqI, rg1, rg2, gSb, gFd, setFS, augFS, gNm, gTp, gsC, gsN, augS, augI, bkS, ctS, whS, slE, oxn, oxs, lpS, List.map_cons, List.map_nil, List.length_cons, List.length_nil, List.replicate, List.cons_append, List.nil_append, Nat.reduceAdd, Nat.reduceSub, List.getElem?_cons_succ, List.getElem?_cons_zero, List.set_cons_zero, List.set_cons_succ, R.toS_ok, R.bind_ok, R.toS_ite, R.bind_ite, SR.go_nx, SR.go_rt, SR.go_bk, SR.go_ct, SR.go_ite, SR.lp_nx, SR.lp_rt, SR.lp_bk, SR.lp_ct, SR.lp_ite, fin_nx, fin_rt, fin_ite, W.cb_bl, if_true, if_false, Bool.false_eq_true, eq_int, ne_int, eq_bl, ne_bl, mx2, mn2, int0, notW, truW, fdiv_ok, mod_ok, mul_okl, add_int, neg_int, int_bl, int_int, listLF_fl, listF_fl, listF_tup, listLF_tup, Int.reduceLT, Int.reduceLE, Int.reduceNeg, decide_true, decide_false, k2, e2])]
  rw [sq_nx (e := [some X, some (flW ds), some (.loc 0), some (.loc 1), none, none, none, none, none, none]) (s := s1) (by unfold t_law_2; simp only [bodyD, pad, sqS, ifS, orB, andB, notB, tb, bn, un, vr, kk, rtS, rnS, exS, orE, andE, chn, ifE, trB, passS, noS, setS, asgS, parS, axc, axn, flE, lsE, tupE, clE, mthE, mkE, lmE, forS, sqI, rg1, rg2, gSb, gFd, setFS, augFS, gNm, gTp, gsC, gsN, augS, augI, bkS, ctS, whS, slE, oxn, oxs, lpS, List.map_cons, List.map_nil, List.length_cons, List.length_nil, List.replicate, List.cons_append, List.nil_append, Nat.reduceAdd, Nat.reduceSub, List.getElem?_cons_succ, List.getElem?_cons_zero, List.set_cons_zero, List.set_cons_succ, R.toS_ok, R.bind_ok, R.toS_ite, R.bind_ite, SR.go_nx, SR.go_rt, SR.go_bk, SR.go_ct, SR.go_ite, SR.lp_nx, SR.lp_rt, SR.lp_bk, SR.lp_ct, SR.lp_ite, fin_nx, fin_rt, fin_ite, W.cb_bl, if_true, if_false, Bool.false_eq_true, eq_int, ne_int, eq_bl, ne_bl, mx2, mn2, int0, notW, truW, fdiv_ok, mod_ok, mul_okl, add_int, neg_int, int_bl, int_int, listLF_fl, listF_fl, listF_tup, listLF_tup, Int.reduceLT, Int.reduceLE, Int.reduceNeg, decide_true, decide_false, i1, hs1])]
  rw [sq_nx (e := [some X, some (flW ds), some (.loc 0), some (.loc 1), some (.loc s1.length), none, none, none, none, none]) (s := s2) (by unfold t_law_3; simp only [bodyD, pad, sqS, ifS, orB, andB, notB, tb, bn, un, vr, kk, rtS, rnS, exS, orE, andE, chn, ifE, trB, passS, noS, setS, asgS, parS, axc, axn, flE, lsE, tupE, clE, mthE, mkE, lmE, forS, sqI, rg1, rg2, gSb, gFd, setFS, augFS, gNm, gTp, gsC, gsN, augS, augI, bkS, ctS, whS, slE, oxn, oxs, lpS, List.map_cons, List.map_nil, List.length_cons, List.length_nil, List.replicate, List.cons_append, List.nil_append, Nat.reduceAdd, Nat.reduceSub, List.getElem?_cons_succ, List.getElem?_cons_zero, List.set_cons_zero, List.set_cons_succ, R.toS_ok, R.bind_ok, R.toS_ite, R.bind_ite, SR.go_nx, SR.go_rt, SR.go_bk, SR.go_ct, SR.go_ite, SR.lp_nx, SR.lp_rt, SR.lp_bk, SR.lp_ct, SR.lp_ite, fin_nx, fin_rt, fin_ite, W.cb_bl, if_true, if_false, Bool.false_eq_true, eq_int, ne_int, eq_bl, ne_bl, mx2, mn2, int0, notW, truW, fdiv_ok, mod_ok, mul_okl, add_int, neg_int, int_bl, int_int, listLF_fl, listF_fl, listF_tup, listLF_tup, Int.reduceLT, Int.reduceLE, Int.reduceNeg, decide_true, decide_false, isA, e3])]
  rw [sq_nx (e := [some X, some (flW ds), some (.loc 0), some (.loc 1), some (.loc s1.length), some (.loc s2.length), none, none, none, none]) (s := s3) (by unfold t_law_4; simp only [bodyD, pad, sqS, ifS, orB, andB, notB, tb, bn, un, vr, kk, rtS, rnS, exS, orE, andE, chn, ifE, trB, passS, noS, setS, asgS, parS, axc, axn, flE, lsE, tupE, clE, mthE, mkE, lmE, forS, sqI, rg1, rg2, gSb, gFd, setFS, augFS, gNm, gTp, gsC, gsN, augS, augI, bkS, ctS, whS, slE, oxn, oxs, lpS, List.map_cons, List.map_nil, List.length_cons, List.length_nil, List.replicate, List.cons_append, List.nil_append, Nat.reduceAdd, Nat.reduceSub, List.getElem?_cons_succ, List.getElem?_cons_zero, List.set_cons_zero, List.set_cons_succ, R.toS_ok, R.bind_ok, R.toS_ite, R.bind_ite, SR.go_nx, SR.go_rt, SR.go_bk, SR.go_ct, SR.go_ite, SR.lp_nx, SR.lp_rt, SR.lp_bk, SR.lp_ct, SR.lp_ite, fin_nx, fin_rt, fin_ite, W.cb_bl, if_true, if_false, Bool.false_eq_true, eq_int, ne_int, eq_bl, ne_bl, mx2, mn2, int0, notW, truW, fdiv_ok, mod_ok, mul_okl, add_int, neg_int, int_bl, int_int, listLF_fl, listF_fl, listF_tup, listLF_tup, Int.reduceLT, Int.reduceLE, Int.reduceNeg, decide_true, decide_false, i2, hs3])]
  rw [sq_nx (e := [some X, some (flW ds), some (.loc 0), some (.loc 1), some (.loc s1.length), some (.loc s2.length), some (.loc s3.length), none, none, none]) (s := s4) (by unfold t_law_5; simp only [bodyD, pad, sqS, ifS, orB, andB, notB, tb, bn, un, vr, kk, rtS, rnS, exS, orE, andE, chn, ifE, trB, passS, noS, setS, asgS, parS, axc, axn, flE, lsE, tupE, clE, mthE, mkE, lmE, forS, sqI, rg1, rg2, gSb, gFd, setFS, augFS, gNm, gTp, gsC, gsN, augS, augI, bkS, ctS, whS, slE, oxn, oxs, lpS, List.map_cons, List.map_nil, List.length_cons, List.length_nil, List.replicate, List.cons_append, List.nil_append, Nat.reduceAdd, Nat.reduceSub, List.getElem?_cons_succ, List.getElem?_cons_zero, List.set_cons_zero, List.set_cons_succ, R.toS_ok, R.bind_ok, R.toS_ite, R.bind_ite, SR.go_nx, SR.go_rt, SR.go_bk, SR.go_ct, SR.go_ite, SR.lp_nx, SR.lp_rt, SR.lp_bk, SR.lp_ct, SR.lp_ite, fin_nx, fin_rt, fin_ite, W.cb_bl, if_true, if_false, Bool.false_eq_true, eq_int, ne_int, eq_bl, ne_bl, mx2, mn2, int0, notW, truW, fdiv_ok, mod_ok, mul_okl, add_int, neg_int, int_bl, int_int, listLF_fl, listF_fl, listF_tup, listLF_tup, Int.reduceLT, Int.reduceLE, Int.reduceNeg, decide_true, decide_false, i3, hs4])]
  rw [sq_nx (e := [some X, some (flW ds), some (.loc 0), some (.loc 1), some (.loc s1.length), some (.loc s2.length), some (.loc s3.length), some (.fl (([] : List Act).map actW)), none, none]) (s := s4) (by unfold t_law_6; simp only [bodyD, pad, sqS, ifS, orB, andB, notB, tb, bn, un, vr, kk, rtS, rnS, exS, orE, andE, chn, ifE, trB, passS, noS, setS, asgS, parS, axc, axn, flE, lsE, tupE, clE, mthE, mkE, lmE, forS, sqI, rg1, rg2, gSb, gFd, setFS, augFS, gNm, gTp, gsC, gsN, augS, augI, bkS, ctS, whS, slE, oxn, oxs, lpS, List.map_cons, List.map_nil, List.length_cons, List.length_nil, List.replicate, List.cons_append, List.nil_append, Nat.reduceAdd, Nat.reduceSub, List.getElem?_cons_succ, List.getElem?_cons_zero, List.set_cons_zero, List.set_cons_succ, R.toS_ok, R.bind_ok, R.toS_ite, R.bind_ite, SR.go_nx, SR.go_rt, SR.go_bk, SR.go_ct, SR.go_ite, SR.lp_nx, SR.lp_rt, SR.lp_bk, SR.lp_ct, SR.lp_ite, fin_nx, fin_rt, fin_ite, W.cb_bl, if_true, if_false, Bool.false_eq_true, eq_int, ne_int, eq_bl, ne_bl, mx2, mn2, int0, notW, truW, fdiv_ok, mod_ok, mul_okl, add_int, neg_int, int_bl, int_int, listLF_fl, listF_fl, listF_tup, listLF_tup, Int.reduceLT, Int.reduceLE, Int.reduceNeg, decide_true, decide_false])]
  rw [sq_nx (e := [some X, some (flW ds), some (.loc 0), some (.loc 1), some (.loc s1.length), some (.loc s2.length), some (.loc s3.length), some (.fl ((takeP P0 ds).2.map actW)), q8, q9]) (s := s5) (by
    unfold t_law_7
    simp only [bodyD, pad, sqS, ifS, orB, andB, notB, tb, bn, un, vr, kk, rtS, rnS, exS, orE, andE, chn, ifE, trB, passS, noS, setS, asgS, parS, axc, axn, flE, lsE, tupE, clE, mthE, mkE, lmE, forS, sqI, rg1, rg2, gSb, gFd, setFS, augFS, gNm, gTp, gsC, gsN, augS, augI, bkS, ctS, whS, slE, oxn, oxs, lpS, List.map_cons, List.map_nil, List.length_cons, List.length_nil, List.replicate, List.cons_append, List.nil_append, Nat.reduceAdd, Nat.reduceSub, List.getElem?_cons_succ, List.getElem?_cons_zero, List.set_cons_zero, List.set_cons_succ, R.toS_ok, R.bind_ok, R.toS_ite, R.bind_ite, SR.go_nx, SR.go_rt, SR.go_bk, SR.go_ct, SR.go_ite, SR.lp_nx, SR.lp_rt, SR.lp_bk, SR.lp_ct, SR.lp_ite, fin_nx, fin_rt, fin_ite, W.cb_bl, if_true, if_false, Bool.false_eq_true, eq_int, ne_int, eq_bl, ne_bl, mx2, mn2, int0, notW, truW, fdiv_ok, mod_ok, mul_okl, add_int, neg_int, int_bl, int_int, listLF_fl, listF_fl, listF_tup, listLF_tup, Int.reduceLT, Int.reduceLE, Int.reduceNeg, decide_true, decide_false, sr]
    exact e5)]
  unfold t_law_8
  simp only [bodyD, pad, sqS, ifS, orB, andB, notB, tb, bn, un, vr, kk, rtS, rnS, exS, orE, andE, chn, ifE, trB, passS, noS, setS, asgS, parS, axc, axn, flE, lsE, tupE, clE, mthE, mkE, lmE, forS, sqI, rg1, rg2, gSb, gFd, setFS, augFS, gNm, gTp, gsC, gsN, augS, augI, bkS, ctS, whS, slE, oxn, oxs, lpS, List.map_cons, List.map_nil, List.length_cons, List.length_nil, List.replicate, List.cons_append, List.nil_append, Nat.reduceAdd, Nat.reduceSub, List.getElem?_cons_succ, List.getElem?_cons_zero, List.set_cons_zero, List.set_cons_succ, R.toS_ok, R.bind_ok, R.toS_ite, R.bind_ite, SR.go_nx, SR.go_rt, SR.go_bk, SR.go_ct, SR.go_ite, SR.lp_nx, SR.lp_rt, SR.lp_bk, SR.lp_ct, SR.lp_ite, fin_nx, fin_rt, fin_ite, W.cb_bl, if_true, if_false, Bool.false_eq_true, eq_int, ne_int, eq_bl, ne_bl, mx2, mn2, int0, notW, truW, fdiv_ok, mod_ok, mul_okl, add_int, neg_int, int_bl, int_int, listLF_fl, listF_fl, listF_tup, listLF_tup, Int.reduceLT, Int.reduceLE, Int.reduceNeg, decide_true, decide_false, eq1, isB, isC, r1, r2, beq_self_eq_true]

end
end Kd

namespace Kd
open PySem L2 ML
def topS (i : Nat) : Stmt := PySem.Challenge.pw_manypanes_k04_cut_bytes_give_the_same_ac.main.body.getD i (.Pass ⟨0, 0, 0, 0⟩)
abbrev s_Parser_init : Stmt := inClass (topS 18) 0
abbrev s_Parser_resting : Stmt := inClass (topS 18) 1
abbrev s_Parser_escape_step : Stmt := inClass (topS 18) 6
abbrev s_is_point : Stmt := topS 3
abbrev s_Parser_further_step : Stmt := inClass (topS 18) 5
abbrev s_Parser_ground_step : Stmt := inClass (topS 18) 4
abbrev s_Parser_sequence_step : Stmt := inClass (topS 18) 7
abbrev s_Parser_end_of_string : Stmt := inClass (topS 18) 10
abbrev s_Parser_step : Stmt := inClass (topS 18) 3
abbrev s_Parser_string_end_step : Stmt := inClass (topS 18) 9
abbrev s_Parser_string_step : Stmt := inClass (topS 18) 8
abbrev s_Parser_take : Stmt := inClass (topS 18) 2
abbrev s__law_cuts : Stmt := topS 29
abbrev s__law_row : Stmt := topS 21
abbrev s__law_digits : Stmt := topS 24
abbrev s__law_sequence : Stmt := topS 26
abbrev s__law_utf8 : Stmt := topS 25
abbrev s__law_token : Stmt := topS 27
abbrev s__law_stream : Stmt := topS 28
abbrev s_law : Stmt := topS 30
structure Ad where
  a_Parser_init : Addr
  fd_Parser_init : FuncData
  a_Parser_resting : Addr
  fd_Parser_resting : FuncData
  a_Parser_escape_step : Addr
  fd_Parser_escape_step : FuncData
  a_is_point : Addr
  fd_is_point : FuncData
  a_Parser_further_step : Addr
  fd_Parser_further_step : FuncData
  a_Parser_ground_step : Addr
  fd_Parser_ground_step : FuncData
  a_Parser_sequence_step : Addr
  fd_Parser_sequence_step : FuncData
  a_Parser_end_of_string : Addr
  fd_Parser_end_of_string : FuncData
  a_Parser_step : Addr
  fd_Parser_step : FuncData
  a_Parser_string_end_step : Addr
  fd_Parser_string_end_step : FuncData
  a_Parser_string_step : Addr
  fd_Parser_string_step : FuncData
  a_Parser_take : Addr
  fd_Parser_take : FuncData
  a__law_cuts : Addr
  fd__law_cuts : FuncData
  a__law_row : Addr
  fd__law_row : FuncData
  a__law_digits : Addr
  fd__law_digits : FuncData
  a__law_sequence : Addr
  fd__law_sequence : FuncData
  a__law_utf8 : Addr
  fd__law_utf8 : FuncData
  a__law_token : Addr
  fd__law_token : FuncData
  a__law_stream : Addr
  fd__law_stream : FuncData
  a_law : Addr
  fd_law : FuncData
  c_Parser : Addr
  k_CANCEL : Addr
  k_STRING_STARTS : Addr
  k_LEAST_OF_LENGTH : Addr
abbrev nm_Parser : List Str := ["mode", "missing", "further", "number", "private", "numbers", "valid", "is_first", "is_title", "string"]
def cx (K : PySem.W.Frag) (A : Ad) : MC := ⟨K, [(A.c_Parser, nm_Parser)], []⟩
theorem cx_Parser (K : PySem.W.Frag) (A : Ad) : (cx K A).cls[0]? = some (A.c_Parser, nm_Parser) := rfl
theorem hu1 {k : Nat} {A : Around} (hr : Room k A) : A.units + 1 < cLine := by have := hr.un; omega
theorem hu65 {k : Nat} {A : Around} (hr : Room k A) : A.units + 65 < cLine := by have := hr.un; omega
structure Txt (K : PySem.W.Frag) (mg : Str → Option Value) (A : Ad) : Prop where
  F_Parser_init : Fun K "__init__" "Parser.__init__" s_Parser_init A.a_Parser_init A.fd_Parser_init
  b_Parser_init : Binds K A.fd_Parser_init ["self"] []
  mk_Parser : Mk K A.c_Parser A.a_Parser_init
  F_Parser_resting : Fun K "resting" "Parser.resting" s_Parser_resting A.a_Parser_resting A.fd_Parser_resting
  b_Parser_resting : Binds K A.fd_Parser_resting ["self"] []
  m_Parser_resting : Meth K A.c_Parser "resting" A.a_Parser_resting
  F_Parser_escape_step : Fun K "escape_step" "Parser.escape_step" s_Parser_escape_step A.a_Parser_escape_step A.fd_Parser_escape_step
  b_Parser_escape_step : Binds K A.fd_Parser_escape_step ["self", "byte"] []
  m_Parser_escape_step : Meth K A.c_Parser "escape_step" A.a_Parser_escape_step
  F_is_point : Fun K "is_point" "is_point" s_is_point A.a_is_point A.fd_is_point
  b_is_point : Binds K A.fd_is_point ["number"] []
  g_is_point : mg "is_point" = some (.ref A.a_is_point)
  F_Parser_further_step : Fun K "further_step" "Parser.further_step" s_Parser_further_step A.a_Parser_further_step A.fd_Parser_further_step
  b_Parser_further_step : Binds K A.fd_Parser_further_step ["self", "byte"] []
  m_Parser_further_step : Meth K A.c_Parser "further_step" A.a_Parser_further_step
  F_Parser_ground_step : Fun K "ground_step" "Parser.ground_step" s_Parser_ground_step A.a_Parser_ground_step A.fd_Parser_ground_step
  b_Parser_ground_step : Binds K A.fd_Parser_ground_step ["self", "byte"] []
  m_Parser_ground_step : Meth K A.c_Parser "ground_step" A.a_Parser_ground_step
  F_Parser_sequence_step : Fun K "sequence_step" "Parser.sequence_step" s_Parser_sequence_step A.a_Parser_sequence_step A.fd_Parser_sequence_step
  b_Parser_sequence_step : Binds K A.fd_Parser_sequence_step ["self", "byte"] []
  m_Parser_sequence_step : Meth K A.c_Parser "sequence_step" A.a_Parser_sequence_step
  F_Parser_end_of_string : Fun K "end_of_string" "Parser.end_of_string" s_Parser_end_of_string A.a_Parser_end_of_string A.fd_Parser_end_of_string
  b_Parser_end_of_string : Binds K A.fd_Parser_end_of_string ["self"] []
  m_Parser_end_of_string : Meth K A.c_Parser "end_of_string" A.a_Parser_end_of_string
  F_Parser_step : Fun K "step" "Parser.step" s_Parser_step A.a_Parser_step A.fd_Parser_step
  b_Parser_step : Binds K A.fd_Parser_step ["self", "byte"] []
  m_Parser_step : Meth K A.c_Parser "step" A.a_Parser_step
  F_Parser_string_end_step : Fun K "string_end_step" "Parser.string_end_step" s_Parser_string_end_step A.a_Parser_string_end_step A.fd_Parser_string_end_step
  b_Parser_string_end_step : Binds K A.fd_Parser_string_end_step ["self", "byte"] []
  m_Parser_string_end_step : Meth K A.c_Parser "string_end_step" A.a_Parser_string_end_step
  F_Parser_string_step : Fun K "string_step" "Parser.string_step" s_Parser_string_step A.a_Parser_string_step A.fd_Parser_string_step
  b_Parser_string_step : Binds K A.fd_Parser_string_step ["self", "byte"] []
  m_Parser_string_step : Meth K A.c_Parser "string_step" A.a_Parser_string_step
  F_Parser_take : Fun K "take" "Parser.take" s_Parser_take A.a_Parser_take A.fd_Parser_take
  b_Parser_take : Binds K A.fd_Parser_take ["self", "data"] []
  m_Parser_take : Meth K A.c_Parser "take" A.a_Parser_take
  F__law_cuts : Fun K "_law_cuts" "_law_cuts" s__law_cuts A.a__law_cuts A.fd__law_cuts
  b__law_cuts : Binds K A.fd__law_cuts ["_law_data", "_law_cells"] []
  g__law_cuts : mg "_law_cuts" = some (.ref A.a__law_cuts)
  F__law_row : Fun K "_law_row" "_law_row" s__law_row A.a__law_row A.fd__law_row
  b__law_row : Binds K A.fd__law_row ["_law_cell_here", "_law_count", "_law_bound"] []
  g__law_row : mg "_law_row" = some (.ref A.a__law_row)
  F__law_digits : Fun K "_law_digits" "_law_digits" s__law_digits A.a__law_digits A.fd__law_digits
  b__law_digits : Binds K A.fd__law_digits ["_law_number"] []
  g__law_digits : mg "_law_digits" = some (.ref A.a__law_digits)
  F__law_sequence : Fun K "_law_sequence" "_law_sequence" s__law_sequence A.a__law_sequence A.fd__law_sequence
  b__law_sequence : Binds K A.fd__law_sequence ["_law_x", "_law_finals", "_law_most"] []
  g__law_sequence : mg "_law_sequence" = some (.ref A.a__law_sequence)
  F__law_utf8 : Fun K "_law_utf8" "_law_utf8" s__law_utf8 A.a__law_utf8 A.fd__law_utf8
  b__law_utf8 : Binds K A.fd__law_utf8 ["_law_point"] []
  g__law_utf8 : mg "_law_utf8" = some (.ref A.a__law_utf8)
  F__law_token : Fun K "_law_token" "_law_token" s__law_token A.a__law_token A.fd__law_token
  b__law_token : Binds K A.fd__law_token ["_law_kind", "_law_x"] []
  g__law_token : mg "_law_token" = some (.ref A.a__law_token)
  F__law_stream : Fun K "_law_stream" "_law_stream" s__law_stream A.a__law_stream A.fd__law_stream
  b__law_stream : Binds K A.fd__law_stream ["_law_cells", "_law_kinds"] []
  g__law_stream : mg "_law_stream" = some (.ref A.a__law_stream)
  F_law : Fun K "law" "law" s_law A.a_law A.fd_law
  b_law : Binds K A.fd_law ["_law_script"] []
  g_law : mg "law" = some (.ref A.a_law)
  cl_Parser : Cls K A.c_Parser
  gc_Parser : mg "Parser" = some (.ref A.c_Parser)
  na_Parser_mode : NoAttr K A.c_Parser "mode"
  na_Parser_missing : NoAttr K A.c_Parser "missing"
  na_Parser_further : NoAttr K A.c_Parser "further"
  na_Parser_number : NoAttr K A.c_Parser "number"
  na_Parser_private : NoAttr K A.c_Parser "private"
  na_Parser_numbers : NoAttr K A.c_Parser "numbers"
  na_Parser_valid : NoAttr K A.c_Parser "valid"
  na_Parser_is_first : NoAttr K A.c_Parser "is_first"
  na_Parser_is_title : NoAttr K A.c_Parser "is_title"
  na_Parser_string : NoAttr K A.c_Parser "string"
  n_abs : mg "abs" = none
  n_int : mg "int" = none
  n_len : mg "len" = none
  n_list : mg "list" = none
  n_min : mg "min" = none
  n_ord : mg "ord" = none
  n_range : mg "range" = none
  n_sorted : mg "sorted" = none
  n_str : mg "str" = none
  n_tuple : mg "tuple" = none
  gi_GROUND : ∃ t, mg "GROUND" = some (.int 0 t)
  gi_UNKNOWN : ∃ t, mg "UNKNOWN" = some (.int 65533 t)
  gi_STRING : ∃ t, mg "STRING" = some (.int 4 t)
  gi_STRING_END : ∃ t, mg "STRING_END" = some (.int 5 t)
  gi_ESCAPE : ∃ t, mg "ESCAPE" = some (.int 1 t)
  gi_SEQUENCE : ∃ t, mg "SEQUENCE" = some (.int 3 t)
  gi_INTERMEDIATE : ∃ t, mg "INTERMEDIATE" = some (.int 2 t)
  gi_LARGEST_POINT : ∃ t, mg "LARGEST_POINT" = some (.int 1114111 t)
  gi_MOST_NUMBERS : ∃ t, mg "MOST_NUMBERS" = some (.int 16 t)
  gi_LARGEST_NUMBER : ∃ t, mg "LARGEST_NUMBER" = some (.int 9999 t)
  gi_LONGEST_TITLE : ∃ t, mg "LONGEST_TITLE" = some (.int 64 t)
  gi_LONGEST_STRING : ∃ t, mg "LONGEST_STRING" = some (.int 256 t)
  gt_CANCEL : mg "CANCEL" = some (.ref A.k_CANCEL)
  gk_CANCEL : GC K (.ref A.k_CANCEL) w_CANCEL
  gt_STRING_STARTS : mg "STRING_STARTS" = some (.ref A.k_STRING_STARTS)
  gk_STRING_STARTS : GC K (.ref A.k_STRING_STARTS) w_STRING_STARTS
  gt_LEAST_OF_LENGTH : mg "LEAST_OF_LENGTH" = some (.ref A.k_LEAST_OF_LENGTH)
  gk_LEAST_OF_LENGTH : GC K (.ref A.k_LEAST_OF_LENGTH) w_LEAST_OF_LENGTH
section
variable {P : Program} {w : World} {K : PySem.W.Frag} {mg : Str → Option Value} {base : Heap} {A : Ad}
theorem sc_Parser_init : FnScope ["self"] ["self"] (defScope s_Parser_init) := ⟨rfl, rfl, rfl, by decide +kernel, rfl, by decide +kernel, by decide +kernel⟩
theorem sc_Parser_resting : FnScope ["self"] ["self"] (defScope s_Parser_resting) := ⟨rfl, rfl, rfl, by decide +kernel, rfl, by decide +kernel, by decide +kernel⟩
theorem sc_Parser_escape_step : FnScope ["self", "byte"] ["self", "byte"] (defScope s_Parser_escape_step) := ⟨rfl, rfl, rfl, by decide +kernel, rfl, by decide +kernel, by decide +kernel⟩
theorem sc_is_point : FnScope ["number"] ["number"] (defScope s_is_point) := ⟨rfl, rfl, rfl, by decide +kernel, rfl, by decide +kernel, by decide +kernel⟩
theorem sc_Parser_further_step : FnScope ["self", "byte"] ["self", "byte"] (defScope s_Parser_further_step) := ⟨rfl, rfl, rfl, by decide +kernel, rfl, by decide +kernel, by decide +kernel⟩
theorem sc_Parser_ground_step : FnScope ["self", "byte"] ["self", "byte"] (defScope s_Parser_ground_step) := ⟨rfl, rfl, rfl, by decide +kernel, rfl, by decide +kernel, by decide +kernel⟩
theorem sc_Parser_sequence_step : FnScope ["self", "byte", "last"] ["self", "byte"] (defScope s_Parser_sequence_step) := ⟨rfl, rfl, rfl, by decide +kernel, rfl, by decide +kernel, by decide +kernel⟩
theorem sc_Parser_end_of_string : FnScope ["self", "text", "byte"] ["self"] (defScope s_Parser_end_of_string) := ⟨rfl, rfl, rfl, by decide +kernel, rfl, by decide +kernel, by decide +kernel⟩
theorem sc_Parser_step : FnScope ["self", "byte"] ["self", "byte"] (defScope s_Parser_step) := ⟨rfl, rfl, rfl, by decide +kernel, rfl, by decide +kernel, by decide +kernel⟩
theorem sc_Parser_string_end_step : FnScope ["self", "byte"] ["self", "byte"] (defScope s_Parser_string_end_step) := ⟨rfl, rfl, rfl, by decide +kernel, rfl, by decide +kernel, by decide +kernel⟩
theorem sc_Parser_string_step : FnScope ["self", "byte"] ["self", "byte"] (defScope s_Parser_string_step) := ⟨rfl, rfl, rfl, by decide +kernel, rfl, by decide +kernel, by decide +kernel⟩
theorem sc_Parser_take : FnScope ["self", "data", "actions", "byte"] ["self", "data"] (defScope s_Parser_take) := ⟨rfl, rfl, rfl, by decide +kernel, rfl, by decide +kernel, by decide +kernel⟩
theorem sc__law_cuts : FnScope ["_law_data", "_law_cells", "_law_places", "_law_pieces", "_law_at", "_law_place", "_law_cell_here"] ["_law_data", "_law_cells"] (defScope s__law_cuts) := ⟨rfl, rfl, rfl, by decide +kernel, rfl, by decide +kernel, by decide +kernel⟩
theorem sc__law_row : FnScope ["_law_cell_here", "_law_count", "_law_bound", "_law_rest", "_law_mixed", "_law_row_here", "_law_k"] ["_law_cell_here", "_law_count", "_law_bound"] (defScope s__law_row) := ⟨rfl, rfl, rfl, by decide +kernel, rfl, by decide +kernel, by decide +kernel⟩
theorem sc__law_digits : FnScope ["_law_number", "_law_sign"] ["_law_number"] (defScope s__law_digits) := ⟨rfl, rfl, rfl, by decide +kernel, rfl, by decide +kernel, by decide +kernel⟩
theorem sc__law_sequence : FnScope ["_law_x", "_law_finals", "_law_most", "_law_data"] ["_law_x", "_law_finals", "_law_most"] (defScope s__law_sequence) := ⟨rfl, rfl, rfl, by decide +kernel, rfl, by decide +kernel, by decide +kernel⟩
theorem sc__law_utf8 : FnScope ["_law_point"] ["_law_point"] (defScope s__law_utf8) := ⟨rfl, rfl, rfl, by decide +kernel, rfl, by decide +kernel, by decide +kernel⟩
theorem sc__law_token : FnScope ["_law_kind", "_law_x", "_law_moves", "_law_edits", "_law_scrolls", "_law_others", "_law_first"] ["_law_kind", "_law_x"] (defScope s__law_token) := ⟨rfl, rfl, rfl, by decide +kernel, rfl, by decide +kernel, by decide +kernel⟩
theorem sc__law_stream : FnScope ["_law_cells", "_law_kinds", "_law_data", "_law_cell_here", "_law_drawn", "_law_k"] ["_law_cells", "_law_kinds"] (defScope s__law_stream) := ⟨rfl, rfl, rfl, by decide +kernel, rfl, by decide +kernel, by decide +kernel⟩
theorem sc_law : FnScope ["_law_script", "_law_data", "_law_pieces", "_law_whole", "_law_expected", "_law_parser", "_law_other", "_law_actual", "_law_piece", "_law_news"] ["_law_script"] (defScope s_law) := ⟨rfl, rfl, rfl, by decide +kernel, rfl, by decide +kernel, by decide +kernel⟩
theorem raw_Parser_init (T : Txt K mg A) : FnOk P w K mg base CX0 1 A.a_Parser_init A.fd_Parser_init ["self"] (sp0 (cx K A) 1 r_Parser_init) :=
  fn_ok (N := ["self"]) T.F_Parser_init sc_Parser_init rfl rfl fun cdv A1 outer sh H E hr => (mss_cons (ms_fld (f := "mode") rfl (cx_Parser K A) (by decide +kernel) (by decide) rfl T.cl_Parser T.na_Parser_mode (me_var (pv 0)) (me_gint rfl T.gi_GROUND)) (mss_cons (ms_fld (f := "missing") rfl (cx_Parser K A) (by decide +kernel) (by decide) rfl T.cl_Parser T.na_Parser_missing (me_var (pv 0)) me_int) (mss_cons (ms_fld (f := "further") rfl (cx_Parser K A) (by decide +kernel) (by decide) rfl T.cl_Parser T.na_Parser_further (me_var (pv 0)) me_int) (mss_cons (ms_fld (f := "number") rfl (cx_Parser K A) (by decide +kernel) (by decide) rfl T.cl_Parser T.na_Parser_number (me_var (pv 0)) me_int) (mss_cons (ms_fld (f := "private") rfl (cx_Parser K A) (by decide +kernel) (by decide) rfl T.cl_Parser T.na_Parser_private (me_var (pv 0)) me_int) (mss_cons (ms_fld (f := "numbers") rfl (cx_Parser K A) (by decide +kernel) (by decide) rfl T.cl_Parser T.na_Parser_numbers (me_var (pv 0)) (me_ls (ma_cons me_int ma_nil))) (mss_cons (ms_fld (f := "valid") rfl (cx_Parser K A) (by decide +kernel) (by decide) rfl T.cl_Parser T.na_Parser_valid (me_var (pv 0)) me_bl) (mss_cons (ms_fld (f := "is_first") rfl (cx_Parser K A) (by decide +kernel) (by decide) rfl T.cl_Parser T.na_Parser_is_first (me_var (pv 0)) me_bl) (mss_cons (ms_fld (f := "is_title") rfl (cx_Parser K A) (by decide +kernel) (by decide) rfl T.cl_Parser T.na_Parser_is_title (me_var (pv 0)) me_bl) (mss_one (ms_fld (f := "string") rfl (cx_Parser K A) (by decide +kernel) (by decide) rfl T.cl_Parser T.na_Parser_string (me_var (pv 0)) (me_ls ma_nil))))))))))))
theorem ok_Parser_init (T : Txt K mg A) : FnOk P w K mg base CX0 1 A.a_Parser_init A.fd_Parser_init ["self"] (sp0 (cx K A) 1 d_Parser_init) := raw_Parser_init T
theorem raw_Parser_resting (T : Txt K mg A) : FnOk P w K mg base CX0 1 A.a_Parser_resting A.fd_Parser_resting ["self"] (sp0 (cx K A) 1 r_Parser_resting) :=
  fn_ok (N := ["self"]) T.F_Parser_resting sc_Parser_resting rfl rfl fun cdv A1 outer sh H E hr => (mss_one (ms_ret (me_and (me_cmp (op_eqD hr.units) om_eq (me_fld (f := "mode") rfl (cx_Parser K A) rfl T.cl_Parser T.na_Parser_mode (me_var (pv 0))) (me_gint rfl T.gi_GROUND) (nomark _)) (me_one (me_cmp (op_eqD hr.units) om_eq (me_fld (f := "missing") rfl (cx_Parser K A) rfl T.cl_Parser T.na_Parser_missing (me_var (pv 0))) me_int (nomark _))))))
theorem ok_Parser_resting (T : Txt K mg A) : FnOk P w K mg base CX0 1 A.a_Parser_resting A.fd_Parser_resting ["self"] (sp0 (cx K A) 1 d_Parser_resting) := raw_Parser_resting T
theorem raw_Parser_escape_step (T : Txt K mg A) : FnOk P w K mg base CX0 1 A.a_Parser_escape_step A.fd_Parser_escape_step ["self", "byte"] (sp0 (cx K A) 2 r_Parser_escape_step) :=
  fn_ok (N := ["self", "byte"]) T.F_Parser_escape_step sc_Parser_escape_step rfl rfl fun cdv A1 outer sh H E hr => (mss_cons (ms_if (mt_cmp (op_eqD hr.units) om_eq (me_var (pv 1)) me_int (nomark _)) (mss_cons (ms_fld (f := "mode") rfl (cx_Parser K A) (by decide +kernel) (by decide) rfl T.cl_Parser T.na_Parser_mode (me_var (pv 0)) (me_gint rfl T.gi_SEQUENCE)) (mss_cons (ms_fld (f := "private") rfl (cx_Parser K A) (by decide +kernel) (by decide) rfl T.cl_Parser T.na_Parser_private (me_var (pv 0)) me_int) (mss_cons (ms_fld (f := "numbers") rfl (cx_Parser K A) (by decide +kernel) (by decide) rfl T.cl_Parser T.na_Parser_numbers (me_var (pv 0)) (me_ls (ma_cons me_int ma_nil))) (mss_cons (ms_fld (f := "valid") rfl (cx_Parser K A) (by decide +kernel) (by decide) rfl T.cl_Parser T.na_Parser_valid (me_var (pv 0)) me_bl) (mss_cons (ms_fld (f := "is_first") rfl (cx_Parser K A) (by decide +kernel) (by decide) rfl T.cl_Parser T.na_Parser_is_first (me_var (pv 0)) me_bl) (mss_one (ms_ret (me_fl ma_nil)))))))) mss_nil) (mss_cons (ms_if (mt_cmp op_in_seq om_in (me_var (pv 1)) (me_gref rfl T.gt_STRING_STARTS T.gk_STRING_STARTS) (by rfl)) (mss_cons (ms_fld (f := "mode") rfl (cx_Parser K A) (by decide +kernel) (by decide) rfl T.cl_Parser T.na_Parser_mode (me_var (pv 0)) (me_gint rfl T.gi_STRING)) (mss_cons (ms_fld (f := "is_title") rfl (cx_Parser K A) (by decide +kernel) (by decide) rfl T.cl_Parser T.na_Parser_is_title (me_var (pv 0)) (me_cmp (op_eqD hr.units) om_eq (me_var (pv 1)) me_int (nomark _))) (mss_cons (ms_fld (f := "string") rfl (cx_Parser K A) (by decide +kernel) (by decide) rfl T.cl_Parser T.na_Parser_string (me_var (pv 0)) (me_ls ma_nil)) (mss_one (ms_ret (me_fl ma_nil)))))) mss_nil) (mss_cons (ms_if (mt_cmp op_lt om_lt (me_var (pv 1)) me_int (nomark _)) (mss_cons (ms_fld (f := "mode") rfl (cx_Parser K A) (by decide +kernel) (by decide) rfl T.cl_Parser T.na_Parser_mode (me_var (pv 0)) (me_gint rfl T.gi_INTERMEDIATE)) (mss_one (ms_ret (me_fl ma_nil)))) mss_nil) (mss_cons (ms_fld (f := "mode") rfl (cx_Parser K A) (by decide +kernel) (by decide) rfl T.cl_Parser T.na_Parser_mode (me_var (pv 0)) (me_gint rfl T.gi_GROUND)) (mss_one (ms_ret (me_fl (ma_cons (me_tup (ma_cons me_str (ma_cons (me_var (pv 1)) ma_nil))) ma_nil))))))))
theorem ok_Parser_escape_step (T : Txt K mg A) : FnOk P w K mg base CX0 1 A.a_Parser_escape_step A.fd_Parser_escape_step ["self", "byte"] (sp0 (cx K A) 2 d_Parser_escape_step) := raw_Parser_escape_step T
theorem raw_is_point (T : Txt K mg A) : FnOk P w K mg base CX0 1 A.a_is_point A.fd_is_point ["number"] (sp0 (cx K A) 1 r_is_point) :=
  fn_ok (N := ["number"]) T.F_is_point sc_is_point rfl rfl fun cdv A1 outer sh H E hr => (mss_cons (ms_if (mt_w (mw_or (mt_cmp op_lt om_lt (me_var (pv 0)) me_int (nomark _)) (mw_or (mt_cmp op_gt om_gt (me_var (pv 0)) (me_gint rfl T.gi_LARGEST_POINT) (nomark _)) (mw_or1 (mt_cmp (op_eqD hr.units) om_eq (me_var (pv 0)) me_int (nomark _)))))) (mss_one (ms_ret me_bl)) mss_nil) (mss_one (ms_ret (me_or (me_cmp op_lt om_lt (me_var (pv 0)) me_int (nomark _)) (me_one (me_cmp op_gt om_gt (me_var (pv 0)) me_int (nomark _)))))))
theorem ok_is_point (T : Txt K mg A) : FnOk P w K mg base CX0 1 A.a_is_point A.fd_is_point ["number"] (sp0 (cx K A) 1 d_is_point) := raw_is_point T
theorem raw_Parser_further_step (T : Txt K mg A) : FnOk P w K mg base CX0 2 A.a_Parser_further_step A.fd_Parser_further_step ["self", "byte"] (sp0 (cx K A) 2 r_Parser_further_step) :=
  fn_ok (N := ["self", "byte"]) T.F_Parser_further_step sc_Parser_further_step rfl rfl fun cdv A1 outer sh H E hr => (mss_cons (ms_if (mt_cmp (op_eqD hr.units) om_eq (me_fld (f := "missing") rfl (cx_Parser K A) rfl T.cl_Parser T.na_Parser_missing (me_var (pv 0))) me_int (nomark _)) (mss_one (ms_ret (me_fl (ma_cons (me_tup (ma_cons me_str (ma_cons (me_gint rfl T.gi_UNKNOWN) ma_nil))) ma_nil)))) mss_nil) (mss_cons (ms_fld (f := "number") rfl (cx_Parser K A) (by decide +kernel) (by decide) rfl T.cl_Parser T.na_Parser_number (me_var (pv 0)) (me_op op_sub om_sub (me_op or_add om_add (me_op or_mul om_mul (me_fld (f := "number") rfl (cx_Parser K A) rfl T.cl_Parser T.na_Parser_number (me_var (pv 0))) me_int) (me_var (pv 1))) me_int)) (mss_cons (ms_fldaug (f := "missing") om_rSub in_sub rfl (cx_Parser K A) (by decide +kernel) (by decide) rfl T.cl_Parser T.na_Parser_missing (me_var (pv 0)) me_int) (mss_cons (ms_if (mt_cmp op_gt om_gt (me_fld (f := "missing") rfl (cx_Parser K A) rfl T.cl_Parser T.na_Parser_missing (me_var (pv 0))) me_int (nomark _)) (mss_one (ms_ret (me_fl ma_nil))) mss_nil) (mss_cons (ms_if (mt_w (mw_and (mt_truth rfl (me_call (ok_is_point T) (hr.mono (by first | decide | omega | (simp only [Nat.add_eq]; omega))) rfl T.g_is_point T.F_is_point.kp T.b_is_point rfl (ma_cons (me_fld (f := "number") rfl (cx_Parser K A) rfl T.cl_Parser T.na_Parser_number (me_var (pv 0))) ma_nil))) (mw_and1 (mt_cmp op_ge om_ge (me_fld (f := "number") rfl (cx_Parser K A) rfl T.cl_Parser T.na_Parser_number (me_var (pv 0))) (me_ix rfl (me_gref rfl T.gt_LEAST_OF_LENGTH T.gk_LEAST_OF_LENGTH) (me_fld (f := "further") rfl (cx_Parser K A) rfl T.cl_Parser T.na_Parser_further (me_var (pv 0)))) (nomark _))))) (mss_one (ms_ret (me_fl (ma_cons (me_tup (ma_cons me_str (ma_cons (me_fld (f := "number") rfl (cx_Parser K A) rfl T.cl_Parser T.na_Parser_number (me_var (pv 0))) ma_nil))) ma_nil)))) mss_nil) (mss_one (ms_ret (me_fl (ma_cons (me_tup (ma_cons me_str (ma_cons (me_gint rfl T.gi_UNKNOWN) ma_nil))) ma_nil)))))))))
theorem ok_Parser_further_step (T : Txt K mg A) : FnOk P w K mg base CX0 2 A.a_Parser_further_step A.fd_Parser_further_step ["self", "byte"] (sp0 (cx K A) 2 d_Parser_further_step) := raw_Parser_further_step T
theorem raw_Parser_ground_step (T : Txt K mg A) : FnOk P w K mg base CX0 3 A.a_Parser_ground_step A.fd_Parser_ground_step ["self", "byte"] (sp0 (cx K A) 2 r_Parser_ground_step) :=
  fn_ok (N := ["self", "byte"]) T.F_Parser_ground_step sc_Parser_ground_step rfl rfl fun cdv A1 outer sh H E hr => (mss_cons (ms_if (mt_cmp op_lt om_lt (me_var (pv 1)) me_int (nomark _)) (mss_one (ms_ret (me_fl (ma_cons (me_tup (ma_cons me_str (ma_cons (me_var (pv 1)) ma_nil))) ma_nil)))) mss_nil) (mss_cons (ms_if (mt_cmp op_lt om_lt (me_var (pv 1)) me_int (nomark _)) (mss_one (ms_ret (ML.me_meth (me_var (pv 0)) (cx_Parser K A) (by decide +kernel) T.cl_Parser T.m_Parser_further_step (ok_Parser_further_step T) (hr.mono (by first | decide | omega | (simp only [Nat.add_eq]; omega))) T.b_Parser_further_step rfl (ma_cons (me_var (pv 1)) ma_nil)))) mss_nil) (mss_cons (ms_if (mt_cmp op_ge om_ge (me_var (pv 1)) me_int (nomark _)) (mss_one (ms_ret (me_fl (ma_cons (me_tup (ma_cons me_str (ma_cons (me_gint rfl T.gi_UNKNOWN) ma_nil))) ma_nil)))) mss_nil) (mss_cons (ms_if (mt_cmp op_lt om_lt (me_var (pv 1)) me_int (nomark _)) (mss_one (ms_asg (me_tup (ma_cons me_int (ma_cons (me_op op_sub om_sub (me_var (pv 1)) me_int) ma_nil))) (mg_tup rfl rfl (mgs_cons (mg_fld (f := "further") (cx_Parser K A) (by decide +kernel) (by decide) rfl T.cl_Parser T.na_Parser_further (me_var (pv 0))) (mgs_cons (mg_fld (f := "number") (cx_Parser K A) (by decide +kernel) (by decide) rfl T.cl_Parser T.na_Parser_number (me_var (pv 0))) mgs_nil))))) (mss_one (ms_if (mt_cmp op_lt om_lt (me_var (pv 1)) me_int (nomark _)) (mss_one (ms_asg (me_tup (ma_cons me_int (ma_cons (me_op op_sub om_sub (me_var (pv 1)) me_int) ma_nil))) (mg_tup rfl rfl (mgs_cons (mg_fld (f := "further") (cx_Parser K A) (by decide +kernel) (by decide) rfl T.cl_Parser T.na_Parser_further (me_var (pv 0))) (mgs_cons (mg_fld (f := "number") (cx_Parser K A) (by decide +kernel) (by decide) rfl T.cl_Parser T.na_Parser_number (me_var (pv 0))) mgs_nil))))) (mss_one (ms_asg (me_tup (ma_cons me_int (ma_cons (me_op op_sub om_sub (me_var (pv 1)) me_int) ma_nil))) (mg_tup rfl rfl (mgs_cons (mg_fld (f := "further") (cx_Parser K A) (by decide +kernel) (by decide) rfl T.cl_Parser T.na_Parser_further (me_var (pv 0))) (mgs_cons (mg_fld (f := "number") (cx_Parser K A) (by decide +kernel) (by decide) rfl T.cl_Parser T.na_Parser_number (me_var (pv 0))) mgs_nil)))))))) (mss_cons (ms_fld (f := "missing") rfl (cx_Parser K A) (by decide +kernel) (by decide) rfl T.cl_Parser T.na_Parser_missing (me_var (pv 0)) (me_fld (f := "further") rfl (cx_Parser K A) rfl T.cl_Parser T.na_Parser_further (me_var (pv 0)))) (mss_one (ms_ret (me_fl ma_nil))))))))
theorem ok_Parser_ground_step (T : Txt K mg A) : FnOk P w K mg base CX0 3 A.a_Parser_ground_step A.fd_Parser_ground_step ["self", "byte"] (sp0 (cx K A) 2 d_Parser_ground_step) := raw_Parser_ground_step T
theorem raw_Parser_sequence_step (T : Txt K mg A) : FnOk P w K mg base CX0 1 A.a_Parser_sequence_step A.fd_Parser_sequence_step ["self", "byte"] (sp0 (cx K A) 2 r_Parser_sequence_step) :=
  fn_ok (N := ["self", "byte", "last"]) T.F_Parser_sequence_step sc_Parser_sequence_step rfl rfl fun cdv A1 outer sh H E hr => (mss_cons (ms_if (mt_cmp op_ge om_ge (me_var (pv 1)) me_int (nomark _)) (mss_cons (ms_fld (f := "mode") rfl (cx_Parser K A) (by decide +kernel) (by decide) rfl T.cl_Parser T.na_Parser_mode (me_var (pv 0)) (me_gint rfl T.gi_GROUND)) (mss_cons (ms_if (mt_not (mt_truth rfl (me_fld (f := "valid") rfl (cx_Parser K A) rfl T.cl_Parser T.na_Parser_valid (me_var (pv 0))))) (mss_one (ms_ret (me_fl ma_nil))) mss_nil) (mss_one (ms_ret (me_fl (ma_cons (me_tup (ma_cons me_str (ma_cons (me_fld (f := "private") rfl (cx_Parser K A) rfl T.cl_Parser T.na_Parser_private (me_var (pv 0))) (ma_cons (me_callTy call_tuple_of cm_tuple rfl T.n_tuple (by decide +kernel) (ma_cons (me_sl rfl sm_sl (me_fld (f := "numbers") rfl (cx_Parser K A) rfl T.cl_Parser T.na_Parser_numbers (me_var (pv 0))) mo_none (mo_some (me_gint rfl T.gi_MOST_NUMBERS))) ma_nil)) (ma_cons (me_var (pv 1)) ma_nil))))) ma_nil)))))) mss_nil) (mss_cons (ms_if (mt_chain op_le op_le om_le om_le me_int (me_var (pv 1)) me_int) (mss_cons (ms_set (i := 2) sc_Parser_sequence_step.nd rfl (Or.inl rfl) (me_op op_sub om_sub (me_op or_add om_add (me_op or_mul om_mul (me_ix rfl (me_fld (f := "numbers") rfl (cx_Parser K A) rfl T.cl_Parser T.na_Parser_numbers (me_var (pv 0))) (me_neg me_int)) me_int) (me_var (pv 1))) me_int)) (mss_one (ms_asg (me_callB (cr_minU rfl) cm_min rfl T.n_min (by decide +kernel) (ma_cons (me_var (pv 2)) (ma_cons (me_gint rfl T.gi_LARGEST_NUMBER) ma_nil))) (mg_sub (me_fld (f := "numbers") rfl (cx_Parser K A) rfl T.cl_Parser T.na_Parser_numbers (me_var (pv 0))) (me_neg me_int))))) (mss_one (ms_if (mt_cmp (op_eqD hr.units) om_eq (me_var (pv 1)) me_int (nomark _)) (mss_one (ms_if (mt_cmp op_le om_le (me_callB call_len_seq cm_len rfl T.n_len (by decide +kernel) (ma_cons (me_fld (f := "numbers") rfl (cx_Parser K A) rfl T.cl_Parser T.na_Parser_numbers (me_var (pv 0))) ma_nil)) (me_gint rfl T.gi_MOST_NUMBERS) (nomark _)) (mss_one (ms_expr (me_lm rfl mm_append PySem.F.slot_list_append PySem.F.type_list_append mt_append (me_fld (f := "numbers") rfl (cx_Parser K A) rfl T.cl_Parser T.na_Parser_numbers (me_var (pv 0))) (ma_cons me_int ma_nil)))) mss_nil)) (mss_one (ms_if (mt_w (mw_and (mt_cmp op_ge om_ge (me_var (pv 1)) me_int (nomark _)) (mw_and1 (mt_truth rfl (me_fld (f := "is_first") rfl (cx_Parser K A) rfl T.cl_Parser T.na_Parser_is_first (me_var (pv 0))))))) (mss_one (ms_fld (f := "private") rfl (cx_Parser K A) (by decide +kernel) (by decide) rfl T.cl_Parser T.na_Parser_private (me_var (pv 0)) (me_var (pv 1)))) (mss_one (ms_fld (f := "valid") rfl (cx_Parser K A) (by decide +kernel) (by decide) rfl T.cl_Parser T.na_Parser_valid (me_var (pv 0)) me_bl))))))) (mss_cons (ms_fld (f := "is_first") rfl (cx_Parser K A) (by decide +kernel) (by decide) rfl T.cl_Parser T.na_Parser_is_first (me_var (pv 0)) me_bl) (mss_one (ms_ret (me_fl ma_nil))))))
theorem ok_Parser_sequence_step (T : Txt K mg A) : FnOk P w K mg base CX0 1 A.a_Parser_sequence_step A.fd_Parser_sequence_step ["self", "byte"] (sp0 (cx K A) 2 d_Parser_sequence_step) := raw_Parser_sequence_step T
theorem raw_Parser_end_of_string (T : Txt K mg A) : FnOk P w K mg base CX0 1 A.a_Parser_end_of_string A.fd_Parser_end_of_string ["self"] (sp0 (cx K A) 1 r_Parser_end_of_string) :=
  fn_ok (N := ["self", "text", "byte"]) T.F_Parser_end_of_string sc_Parser_end_of_string rfl rfl fun cdv A1 outer sh H E hr => (mss_cons (ms_fld (f := "mode") rfl (cx_Parser K A) (by decide +kernel) (by decide) rfl T.cl_Parser T.na_Parser_mode (me_var (pv 0)) (me_gint rfl T.gi_GROUND)) (mss_cons (ms_if (mt_w (mw_or (mt_not (mt_truth rfl (me_fld (f := "is_title") rfl (cx_Parser K A) rfl T.cl_Parser T.na_Parser_is_title (me_var (pv 0))))) (mw_or1 (mt_cmp (op_ninU (hu65 hr)) om_inU (me_sl rfl sm_sl (me_fld (f := "string") rfl (cx_Parser K A) rfl T.cl_Parser T.na_Parser_string (me_var (pv 0))) mo_none (mo_some me_int)) (me_tup (ma_cons (me_fl (ma_cons me_int (ma_cons me_int ma_nil))) (ma_cons (me_fl (ma_cons me_int (ma_cons me_int ma_nil))) ma_nil))) (by rfl))))) (mss_one (ms_ret (me_fl ma_nil))) mss_nil) (mss_cons (ms_setLc (i := 1) (ownP := [("byte", 2)]) (ct_name (i := 2) (by decide)) rfl sc_Parser_end_of_string.nd rfl rfl (sw_true rfl rfl rfl (by decide +kernel)) (mi_seq rfl (me_sl rfl sm_sl (me_fld (f := "string") rfl (cx_Parser K A) rfl T.cl_Parser T.na_Parser_string (me_var (pv 0))) (mo_some me_int) mo_none)) (blkOk_by (own := [("byte", 2)]) (N := ["self", "text", "byte"]) (sc := defScope s_Parser_end_of_string) (by decide +kernel)) (fun _ _ _ _ _ => pg_name (i := 2) sc_Parser_end_of_string.nd rfl (Or.inl rfl)) (fun _ _ _ _ _ => (mts_one (mt_chain op_le op_le om_le om_le me_int (me_var (pv 2)) me_int))) (fun _ _ _ _ _ => (me_var (pv 2)))) (mss_one (ms_ret (me_fl (ma_cons (me_tup (ma_cons me_str (ma_cons (me_callTy call_tuple_of cm_tuple rfl T.n_tuple (by decide +kernel) (ma_cons (me_sl rfl sm_sl (me_var (pv 1)) mo_none (mo_some (me_gint rfl T.gi_LONGEST_TITLE))) ma_nil)) ma_nil))) ma_nil)))))))
theorem ok_Parser_end_of_string (T : Txt K mg A) : FnOk P w K mg base CX0 1 A.a_Parser_end_of_string A.fd_Parser_end_of_string ["self"] (sp0 (cx K A) 1 d_Parser_end_of_string) := raw_Parser_end_of_string T
theorem raw_Parser_step0 (T : Txt K mg A) : FnOk P w K mg base CX0 4 A.a_Parser_step A.fd_Parser_step ["self", "byte"] (sp0 (cx K A) 2 r_Parser_step0) :=
  fn_ok (N := ["self", "byte"]) T.F_Parser_step sc_Parser_step rfl rfl fun cdv A1 outer sh H E hr => (mss_cons (ms_if (mt_cmp op_in_seq om_in (me_var (pv 1)) (me_gref rfl T.gt_CANCEL T.gk_CANCEL) (by rfl)) (mss_cons (ms_fld (f := "mode") rfl (cx_Parser K A) (by decide +kernel) (by decide) rfl T.cl_Parser T.na_Parser_mode (me_var (pv 0)) (me_gint rfl T.gi_GROUND)) (mss_one (ms_ret (me_fl ma_nil)))) mss_nil) (mss_cons (ms_if (mt_cmp (op_eqD hr.units) om_eq (me_fld (f := "mode") rfl (cx_Parser K A) rfl T.cl_Parser T.na_Parser_mode (me_var (pv 0))) (me_gint rfl T.gi_STRING) (nomark _)) (mss_one ms_never) mss_nil) (mss_cons (ms_if (mt_cmp (op_eqD hr.units) om_eq (me_fld (f := "mode") rfl (cx_Parser K A) rfl T.cl_Parser T.na_Parser_mode (me_var (pv 0))) (me_gint rfl T.gi_STRING_END) (nomark _)) (mss_one ms_never) mss_nil) (mss_cons (ms_if (mt_cmp (op_eqD hr.units) om_eq (me_var (pv 1)) me_int (nomark _)) (mss_cons (ms_fld (f := "mode") rfl (cx_Parser K A) (by decide +kernel) (by decide) rfl T.cl_Parser T.na_Parser_mode (me_var (pv 0)) (me_gint rfl T.gi_ESCAPE)) (mss_one (ms_ret (me_fl ma_nil)))) mss_nil) (mss_cons (ms_if (mt_cmp op_lt om_lt (me_var (pv 1)) me_int (nomark _)) (mss_one (ms_ret (me_fl (ma_cons (me_tup (ma_cons me_str (ma_cons (me_var (pv 1)) ma_nil))) ma_nil)))) mss_nil) (mss_cons (ms_if (mt_cmp (op_eqD hr.units) om_eq (me_var (pv 1)) me_int (nomark _)) (mss_one (ms_ret (me_fl ma_nil))) mss_nil) (mss_cons (ms_if (mt_w (mw_or (mt_cmp op_ge om_ge (me_var (pv 1)) me_int (nomark _)) (mw_or1 (mt_cmp (op_eqD hr.units) om_eq (me_fld (f := "mode") rfl (cx_Parser K A) rfl T.cl_Parser T.na_Parser_mode (me_var (pv 0))) (me_gint rfl T.gi_GROUND) (nomark _))))) (mss_cons (ms_fld (f := "mode") rfl (cx_Parser K A) (by decide +kernel) (by decide) rfl T.cl_Parser T.na_Parser_mode (me_var (pv 0)) (me_gint rfl T.gi_GROUND)) (mss_one (ms_ret (ML.me_meth (me_var (pv 0)) (cx_Parser K A) (by decide +kernel) T.cl_Parser T.m_Parser_ground_step (ok_Parser_ground_step T) (hr.mono (by first | decide | omega | (simp only [Nat.add_eq]; omega))) T.b_Parser_ground_step rfl (ma_cons (me_var (pv 1)) ma_nil))))) mss_nil) (mss_cons (ms_if (mt_cmp (op_eqD hr.units) om_eq (me_fld (f := "mode") rfl (cx_Parser K A) rfl T.cl_Parser T.na_Parser_mode (me_var (pv 0))) (me_gint rfl T.gi_ESCAPE) (nomark _)) (mss_one (ms_ret (ML.me_meth (me_var (pv 0)) (cx_Parser K A) (by decide +kernel) T.cl_Parser T.m_Parser_escape_step (ok_Parser_escape_step T) (hr.mono (by first | decide | omega | (simp only [Nat.add_eq]; omega))) T.b_Parser_escape_step rfl (ma_cons (me_var (pv 1)) ma_nil)))) mss_nil) (mss_cons (ms_if (mt_cmp (op_eqD hr.units) om_eq (me_fld (f := "mode") rfl (cx_Parser K A) rfl T.cl_Parser T.na_Parser_mode (me_var (pv 0))) (me_gint rfl T.gi_SEQUENCE) (nomark _)) (mss_one (ms_ret (ML.me_meth (me_var (pv 0)) (cx_Parser K A) (by decide +kernel) T.cl_Parser T.m_Parser_sequence_step (ok_Parser_sequence_step T) (hr.mono (by first | decide | omega | (simp only [Nat.add_eq]; omega))) T.b_Parser_sequence_step rfl (ma_cons (me_var (pv 1)) ma_nil)))) mss_nil) (mss_cons (ms_if (mt_cmp op_ge om_ge (me_var (pv 1)) me_int (nomark _)) (mss_one (ms_fld (f := "mode") rfl (cx_Parser K A) (by decide +kernel) (by decide) rfl T.cl_Parser T.na_Parser_mode (me_var (pv 0)) (me_gint rfl T.gi_GROUND))) mss_nil) (mss_one (ms_ret (me_fl ma_nil)))))))))))))
theorem ok_Parser_step0 (T : Txt K mg A) : FnOk P w K mg base CX0 4 A.a_Parser_step A.fd_Parser_step ["self", "byte"] (sp0 (cx K A) 2 d_Parser_step0) := raw_Parser_step0 T
theorem raw_Parser_string_end_step (T : Txt K mg A) : FnOk P w K mg base CX0 5 A.a_Parser_string_end_step A.fd_Parser_string_end_step ["self", "byte"] (sp0 (cx K A) 2 r_Parser_string_end_step) :=
  fn_ok (N := ["self", "byte"]) T.F_Parser_string_end_step sc_Parser_string_end_step rfl rfl fun cdv A1 outer sh H E hr => (mss_cons (ms_if (mt_cmp (op_eqD hr.units) om_eq (me_var (pv 1)) me_int (nomark _)) (mss_one (ms_ret (me_meth0 (pl := _) (me_var (pv 0)) (cx_Parser K A) (by decide +kernel) T.cl_Parser T.m_Parser_end_of_string (ok_Parser_end_of_string T) (hr.mono (by first | decide | omega | (simp only [Nat.add_eq]; omega))) T.b_Parser_end_of_string))) mss_nil) (mss_cons (ms_fld (f := "mode") rfl (cx_Parser K A) (by decide +kernel) (by decide) rfl T.cl_Parser T.na_Parser_mode (me_var (pv 0)) (me_gint rfl T.gi_ESCAPE)) (mss_one (ms_ret (me_if (mt_cmp (op_eqD hr.units) om_eq (me_var (pv 1)) me_int (nomark _)) (me_fl ma_nil) (ML.me_meth (me_var (pv 0)) (cx_Parser K A) (by decide +kernel) T.cl_Parser T.m_Parser_step (ok_Parser_step0 T) (hr.mono (by first | decide | omega | (simp only [Nat.add_eq]; omega))) T.b_Parser_step rfl (ma_cons (me_var (pv 1)) ma_nil)))))))
theorem ok_Parser_string_end_step (T : Txt K mg A) : FnOk P w K mg base CX0 5 A.a_Parser_string_end_step A.fd_Parser_string_end_step ["self", "byte"] (sp0 (cx K A) 2 d_Parser_string_end_step) := raw_Parser_string_end_step T
theorem raw_Parser_string_step (T : Txt K mg A) : FnOk P w K mg base CX0 2 A.a_Parser_string_step A.fd_Parser_string_step ["self", "byte"] (sp0 (cx K A) 2 r_Parser_string_step) :=
  fn_ok (N := ["self", "byte"]) T.F_Parser_string_step sc_Parser_string_step rfl rfl fun cdv A1 outer sh H E hr => (mss_cons (ms_if (mt_cmp (op_eqD hr.units) om_eq (me_var (pv 1)) me_int (nomark _)) (mss_one (ms_ret (me_meth0 (pl := _) (me_var (pv 0)) (cx_Parser K A) (by decide +kernel) T.cl_Parser T.m_Parser_end_of_string (ok_Parser_end_of_string T) (hr.mono (by first | decide | omega | (simp only [Nat.add_eq]; omega))) T.b_Parser_end_of_string))) mss_nil) (mss_cons (ms_if (mt_cmp (op_eqD hr.units) om_eq (me_var (pv 1)) me_int (nomark _)) (mss_one (ms_fld (f := "mode") rfl (cx_Parser K A) (by decide +kernel) (by decide) rfl T.cl_Parser T.na_Parser_mode (me_var (pv 0)) (me_gint rfl T.gi_STRING_END))) (mss_one (ms_if (mt_cmp op_lt om_lt (me_callB call_len_seq cm_len rfl T.n_len (by decide +kernel) (ma_cons (me_fld (f := "string") rfl (cx_Parser K A) rfl T.cl_Parser T.na_Parser_string (me_var (pv 0))) ma_nil)) (me_gint rfl T.gi_LONGEST_STRING) (nomark _)) (mss_one (ms_expr (me_lm rfl mm_append PySem.F.slot_list_append PySem.F.type_list_append mt_append (me_fld (f := "string") rfl (cx_Parser K A) rfl T.cl_Parser T.na_Parser_string (me_var (pv 0))) (ma_cons (me_var (pv 1)) ma_nil)))) mss_nil))) (mss_one (ms_ret (me_fl ma_nil)))))
theorem ok_Parser_string_step (T : Txt K mg A) : FnOk P w K mg base CX0 2 A.a_Parser_string_step A.fd_Parser_string_step ["self", "byte"] (sp0 (cx K A) 2 d_Parser_string_step) := raw_Parser_string_step T
theorem raw_Parser_step (T : Txt K mg A) : FnOk P w K mg base CX0 6 A.a_Parser_step A.fd_Parser_step ["self", "byte"] (sp0 (cx K A) 2 r_Parser_step) :=
  fn_ok (N := ["self", "byte"]) T.F_Parser_step sc_Parser_step rfl rfl fun cdv A1 outer sh H E hr => (mss_cons (ms_if (mt_cmp op_in_seq om_in (me_var (pv 1)) (me_gref rfl T.gt_CANCEL T.gk_CANCEL) (by rfl)) (mss_cons (ms_fld (f := "mode") rfl (cx_Parser K A) (by decide +kernel) (by decide) rfl T.cl_Parser T.na_Parser_mode (me_var (pv 0)) (me_gint rfl T.gi_GROUND)) (mss_one (ms_ret (me_fl ma_nil)))) mss_nil) (mss_cons (ms_if (mt_cmp (op_eqD hr.units) om_eq (me_fld (f := "mode") rfl (cx_Parser K A) rfl T.cl_Parser T.na_Parser_mode (me_var (pv 0))) (me_gint rfl T.gi_STRING) (nomark _)) (mss_one (ms_ret (ML.me_meth (me_var (pv 0)) (cx_Parser K A) (by decide +kernel) T.cl_Parser T.m_Parser_string_step (ok_Parser_string_step T) (hr.mono (by first | decide | omega | (simp only [Nat.add_eq]; omega))) T.b_Parser_string_step rfl (ma_cons (me_var (pv 1)) ma_nil)))) mss_nil) (mss_cons (ms_if (mt_cmp (op_eqD hr.units) om_eq (me_fld (f := "mode") rfl (cx_Parser K A) rfl T.cl_Parser T.na_Parser_mode (me_var (pv 0))) (me_gint rfl T.gi_STRING_END) (nomark _)) (mss_one (ms_ret (ML.me_meth (me_var (pv 0)) (cx_Parser K A) (by decide +kernel) T.cl_Parser T.m_Parser_string_end_step (ok_Parser_string_end_step T) (hr.mono (by first | decide | omega | (simp only [Nat.add_eq]; omega))) T.b_Parser_string_end_step rfl (ma_cons (me_var (pv 1)) ma_nil)))) mss_nil) (mss_cons (ms_if (mt_cmp (op_eqD hr.units) om_eq (me_var (pv 1)) me_int (nomark _)) (mss_cons (ms_fld (f := "mode") rfl (cx_Parser K A) (by decide +kernel) (by decide) rfl T.cl_Parser T.na_Parser_mode (me_var (pv 0)) (me_gint rfl T.gi_ESCAPE)) (mss_one (ms_ret (me_fl ma_nil)))) mss_nil) (mss_cons (ms_if (mt_cmp op_lt om_lt (me_var (pv 1)) me_int (nomark _)) (mss_one (ms_ret (me_fl (ma_cons (me_tup (ma_cons me_str (ma_cons (me_var (pv 1)) ma_nil))) ma_nil)))) mss_nil) (mss_cons (ms_if (mt_cmp (op_eqD hr.units) om_eq (me_var (pv 1)) me_int (nomark _)) (mss_one (ms_ret (me_fl ma_nil))) mss_nil) (mss_cons (ms_if (mt_w (mw_or (mt_cmp op_ge om_ge (me_var (pv 1)) me_int (nomark _)) (mw_or1 (mt_cmp (op_eqD hr.units) om_eq (me_fld (f := "mode") rfl (cx_Parser K A) rfl T.cl_Parser T.na_Parser_mode (me_var (pv 0))) (me_gint rfl T.gi_GROUND) (nomark _))))) (mss_cons (ms_fld (f := "mode") rfl (cx_Parser K A) (by decide +kernel) (by decide) rfl T.cl_Parser T.na_Parser_mode (me_var (pv 0)) (me_gint rfl T.gi_GROUND)) (mss_one (ms_ret (ML.me_meth (me_var (pv 0)) (cx_Parser K A) (by decide +kernel) T.cl_Parser T.m_Parser_ground_step (ok_Parser_ground_step T) (hr.mono (by first | decide | omega | (simp only [Nat.add_eq]; omega))) T.b_Parser_ground_step rfl (ma_cons (me_var (pv 1)) ma_nil))))) mss_nil) (mss_cons (ms_if (mt_cmp (op_eqD hr.units) om_eq (me_fld (f := "mode") rfl (cx_Parser K A) rfl T.cl_Parser T.na_Parser_mode (me_var (pv 0))) (me_gint rfl T.gi_ESCAPE) (nomark _)) (mss_one (ms_ret (ML.me_meth (me_var (pv 0)) (cx_Parser K A) (by decide +kernel) T.cl_Parser T.m_Parser_escape_step (ok_Parser_escape_step T) (hr.mono (by first | decide | omega | (simp only [Nat.add_eq]; omega))) T.b_Parser_escape_step rfl (ma_cons (me_var (pv 1)) ma_nil)))) mss_nil) (mss_cons (ms_if (mt_cmp (op_eqD hr.units) om_eq (me_fld (f := "mode") rfl (cx_Parser K A) rfl T.cl_Parser T.na_Parser_mode (me_var (pv 0))) (me_gint rfl T.gi_SEQUENCE) (nomark _)) (mss_one (ms_ret (ML.me_meth (me_var (pv 0)) (cx_Parser K A) (by decide +kernel) T.cl_Parser T.m_Parser_sequence_step (ok_Parser_sequence_step T) (hr.mono (by first | decide | omega | (simp only [Nat.add_eq]; omega))) T.b_Parser_sequence_step rfl (ma_cons (me_var (pv 1)) ma_nil)))) mss_nil) (mss_cons (ms_if (mt_cmp op_ge om_ge (me_var (pv 1)) me_int (nomark _)) (mss_one (ms_fld (f := "mode") rfl (cx_Parser K A) (by decide +kernel) (by decide) rfl T.cl_Parser T.na_Parser_mode (me_var (pv 0)) (me_gint rfl T.gi_GROUND))) mss_nil) (mss_one (ms_ret (me_fl ma_nil)))))))))))))
theorem ok_Parser_step (T : Txt K mg A) : FnOk P w K mg base CX0 6 A.a_Parser_step A.fd_Parser_step ["self", "byte"] (sp0 (cx K A) 2 d_Parser_step) := raw_Parser_step T
theorem raw_Parser_take (T : Txt K mg A) : FnOk P w K mg base CX0 7 A.a_Parser_take A.fd_Parser_take ["self", "data"] (sp0 (cx K A) 2 r_Parser_take) :=
  fn_ok (N := ["self", "data", "actions", "byte"]) T.F_Parser_take sc_Parser_take rfl rfl fun cdv A1 outer sh H E hr => (mss_cons (ms_set (i := 2) sc_Parser_take.nd rfl (Or.inl rfl) (me_ls ma_nil)) (mss_cons (ms_for PassesOwn.never rfl (mi_seq rfl (me_var (pv 1))) (mg_name (i := 3) sc_Parser_take.nd rfl (Or.inl rfl)) (mss_cons (ms_if (mt_w (mw_and (mt_cmp op_gt om_gt (me_fld (f := "missing") rfl (cx_Parser K A) rfl T.cl_Parser T.na_Parser_missing (me_var (pv 0))) me_int (nomark _)) (mw_and1 (mt_not (mt_chain op_le op_le om_le om_le me_int (me_var (pv 3)) me_int))))) (mss_cons (ms_fld (f := "missing") rfl (cx_Parser K A) (by decide +kernel) (by decide) rfl T.cl_Parser T.na_Parser_missing (me_var (pv 0)) me_int) (mss_one (ms_expr (me_lm rfl mm_append PySem.F.slot_list_append PySem.F.type_list_append mt_append (me_var (pv 2)) (ma_cons (me_tup (ma_cons me_str (ma_cons (me_gint rfl T.gi_UNKNOWN) ma_nil))) ma_nil))))) mss_nil) (mss_one (ms_expr (me_lm rfl mm_extend PySem.F.slot_list_extend PySem.F.type_list_extend mt_extend (me_var (pv 2)) (ma_cons (ML.me_meth (me_var (pv 0)) (cx_Parser K A) (by decide +kernel) T.cl_Parser T.m_Parser_step (ok_Parser_step T) (hr.mono (by first | decide | omega | (simp only [Nat.add_eq]; omega))) T.b_Parser_step rfl (ma_cons (me_var (pv 3)) ma_nil)) ma_nil)))))) (mss_one (ms_ret (me_var (pv 2))))))
theorem ok_Parser_take (T : Txt K mg A) : FnOk P w K mg base CX0 7 A.a_Parser_take A.fd_Parser_take ["self", "data"] (sp0 (cx K A) 2 d_Parser_take) := raw_Parser_take T
theorem raw__law_cuts (T : Txt K mg A) : FnOk P w K mg base CX0 1 A.a__law_cuts A.fd__law_cuts ["_law_data", "_law_cells"] (sp0 (cx K A) 2 r__law_cuts) :=
  fn_ok (N := ["_law_data", "_law_cells", "_law_places", "_law_pieces", "_law_at", "_law_place", "_law_cell_here"]) T.F__law_cuts sc__law_cuts rfl rfl fun cdv A1 outer sh H E hr => (mss_cons (ms_set (i := 2) sc__law_cuts.nd rfl (Or.inl rfl) (me_callB cr_sortedI cm_sorted rfl T.n_sorted (by decide +kernel) (ma_cons (me_lc (ownP := [("_law_cell_here", 6)]) (ct_name (i := 6) (by decide)) rfl sc__law_cuts.nd (mi_seq rfl (me_var (pv 1))) (blkOk_by (own := [("_law_cell_here", 6)]) (N := ["_law_data", "_law_cells", "_law_places", "_law_pieces", "_law_at", "_law_place", "_law_cell_here"]) (sc := defScope s__law_cuts) (by decide +kernel)) (fun _ _ _ _ _ => pg_name (i := 6) sc__law_cuts.nd rfl (Or.inl rfl)) (fun _ _ _ _ _ => mts_nil) (fun _ _ _ _ _ => (me_op op_mod om_mod (me_callTy call_int1 cm_int rfl T.n_int (by decide +kernel) (ma_cons (me_var (pv 6)) ma_nil)) (me_op or_add om_add (me_callB call_len_seq cm_len rfl T.n_len (by decide +kernel) (ma_cons (me_var (pv 0)) ma_nil)) me_int)))) ma_nil))) (mss_cons (ms_set (i := 3) sc__law_cuts.nd rfl (Or.inl rfl) (me_ls ma_nil)) (mss_cons (ms_set (i := 4) sc__law_cuts.nd rfl (Or.inl rfl) me_int) (mss_cons (ms_for PassesOwn.never rfl (mi_seq rfl (me_var (pv 2))) (mg_name (i := 5) sc__law_cuts.nd rfl (Or.inl rfl)) (mss_cons (ms_expr (me_lm rfl mm_append PySem.F.slot_list_append PySem.F.type_list_append mt_append (me_var (pv 3)) (ma_cons (me_sl rfl sm_sl (me_var (pv 0)) (mo_some (me_var (pv 4))) (mo_some (me_var (pv 5)))) ma_nil))) (mss_one (ms_set (i := 4) sc__law_cuts.nd rfl (Or.inl rfl) (me_var (pv 5)))))) (mss_cons (ms_expr (me_lm rfl mm_append PySem.F.slot_list_append PySem.F.type_list_append mt_append (me_var (pv 3)) (ma_cons (me_sl rfl sm_sl (me_var (pv 0)) (mo_some (me_var (pv 4))) mo_none) ma_nil))) (mss_one (ms_ret (me_var (pv 3)))))))))
theorem ok__law_cuts (T : Txt K mg A) : FnOk P w K mg base CX0 1 A.a__law_cuts A.fd__law_cuts ["_law_data", "_law_cells"] (sp0 (cx K A) 2 d__law_cuts) := raw__law_cuts T
theorem raw__law_row (T : Txt K mg A) : FnOk P w K mg base CX0 1 A.a__law_row A.fd__law_row ["_law_cell_here", "_law_count", "_law_bound"] (sp0 (cx K A) 3 r__law_row) :=
  fn_ok (N := ["_law_cell_here", "_law_count", "_law_bound", "_law_rest", "_law_mixed", "_law_row_here", "_law_k"]) T.F__law_row sc__law_row rfl rfl fun cdv A1 outer sh H E hr => (mss_cons (ms_set (i := 3) sc__law_row.nd rfl (Or.inl rfl) (me_callB call_abs cm_abs rfl T.n_abs (by decide +kernel) (ma_cons (me_callTy call_int1 cm_int rfl T.n_int (by decide +kernel) (ma_cons (me_var (pv 0)) ma_nil)) ma_nil))) (mss_cons (ms_set (i := 4) sc__law_row.nd rfl (Or.inl rfl) (me_op or_add om_add (me_op op_mod om_mod (me_callTy call_int1 cm_int rfl T.n_int (by decide +kernel) (ma_cons (me_var (pv 0)) ma_nil)) me_int) me_int)) (mss_cons (ms_set (i := 5) sc__law_row.nd rfl (Or.inl rfl) (me_ls ma_nil)) (mss_cons (ms_for PassesOwn.never rfl (mi_range1 rfl T.n_range (ma_cons (me_var (pv 1)) ma_nil)) (mg_name (i := 6) sc__law_row.nd rfl (Or.inl rfl)) (mss_one (ms_if (mt_cmp op_ge om_ge (me_var (pv 3)) (me_var (pv 2)) (nomark _)) (mss_cons (ms_expr (me_lm rfl mm_append PySem.F.slot_list_append PySem.F.type_list_append mt_append (me_var (pv 5)) (ma_cons (me_op op_mod om_mod (me_callTy call_int1 cm_int rfl T.n_int (by decide +kernel) (ma_cons (me_var (pv 3)) ma_nil)) (me_var (pv 2))) ma_nil))) (mss_one (ms_set (i := 3) sc__law_row.nd rfl (Or.inl rfl) (me_op op_fdiv om_fdiv (me_var (pv 3)) (me_var (pv 2)))))) (mss_cons (ms_set (i := 4) sc__law_row.nd rfl (Or.inl rfl) (me_op op_mod om_mod (me_callTy call_int1 cm_int rfl T.n_int (by decide +kernel) (ma_cons (me_op or_add om_add (me_op or_add om_add (me_op or_mul om_mul (me_var (pv 4)) me_int) (me_op or_mul om_mul me_int (me_var (pv 6)))) me_int) ma_nil)) me_int)) (mss_one (ms_expr (me_lm rfl mm_append PySem.F.slot_list_append PySem.F.type_list_append mt_append (me_var (pv 5)) (ma_cons (me_op op_mod om_mod (me_callTy call_int1 cm_int rfl T.n_int (by decide +kernel) (ma_cons (me_op op_fdiv om_fdiv (me_op or_mul om_mul (me_var (pv 4)) me_int) me_int) ma_nil)) (me_var (pv 2))) ma_nil)))))))) (mss_one (ms_ret (me_var (pv 5))))))))
theorem ok__law_row (T : Txt K mg A) : FnOk P w K mg base CX0 1 A.a__law_row A.fd__law_row ["_law_cell_here", "_law_count", "_law_bound"] (sp0 (cx K A) 3 d__law_row) := fn_gz (raw__law_row T) gz__law_row
theorem raw__law_digits (T : Txt K mg A) : FnOk P w K mg base CX0 1 A.a__law_digits A.fd__law_digits ["_law_number"] (sp0 (cx K A) 1 r__law_digits) :=
  fn_ok (N := ["_law_number", "_law_sign"]) T.F__law_digits sc__law_digits rfl rfl fun cdv A1 outer sh H E hr => (mss_one (ms_ret (me_lc (ownP := [("_law_sign", 1)]) (ct_name (i := 1) (by decide)) rfl sc__law_digits.nd (mi_str (me_callTy call_str_int cm_str rfl T.n_str (by decide +kernel) (ma_cons (me_var (pv 0)) ma_nil))) (blkOk_by (own := [("_law_sign", 1)]) (N := ["_law_number", "_law_sign"]) (sc := defScope s__law_digits) (by decide +kernel)) (fun _ _ _ _ _ => pg_name (i := 1) sc__law_digits.nd rfl (Or.inl rfl)) (fun _ _ _ _ _ => mts_nil) (fun _ _ _ _ _ => (me_callB call_ord cm_ord rfl T.n_ord (by decide +kernel) (ma_cons (me_var (pv 1)) ma_nil))))))
theorem ok__law_digits (T : Txt K mg A) : FnOk P w K mg base CX0 1 A.a__law_digits A.fd__law_digits ["_law_number"] (sp0 (cx K A) 1 d__law_digits) := raw__law_digits T
theorem raw__law_sequence (T : Txt K mg A) : FnOk P w K mg base CX0 2 A.a__law_sequence A.fd__law_sequence ["_law_x", "_law_finals", "_law_most"] (sp0 (cx K A) 3 r__law_sequence) :=
  fn_ok (N := ["_law_x", "_law_finals", "_law_most", "_law_data"]) T.F__law_sequence sc__law_sequence rfl rfl fun cdv A1 outer sh H E hr => (mss_cons (ms_set (i := 3) sc__law_sequence.nd rfl (Or.inl rfl) (me_op or_add om_add (me_fl (ma_cons me_int (ma_cons me_int ma_nil))) (me_call (ok__law_digits T) (hr.mono (by first | decide | omega | (simp only [Nat.add_eq]; omega))) rfl T.g__law_digits T.F__law_digits.kp T.b__law_digits rfl (ma_cons (me_op op_mod om_mod (me_var (pv 0)) (me_var (pv 2))) ma_nil)))) (mss_cons (ms_if (mt_cmp (op_eqD hr.units) om_eq (me_op op_mod om_mod (me_op op_fdiv om_fdiv (me_var (pv 0)) (me_var (pv 2))) me_int) me_int (nomark _)) (mss_one (ms_set (i := 3) sc__law_sequence.nd rfl (Or.inl rfl) (me_op or_add om_add (me_op or_add om_add (me_var (pv 3)) (me_fl (ma_cons me_int ma_nil))) (me_call (ok__law_digits T) (hr.mono (by first | decide | omega | (simp only [Nat.add_eq]; omega))) rfl T.g__law_digits T.F__law_digits.kp T.b__law_digits rfl (ma_cons (me_op op_mod om_mod (me_op op_fdiv om_fdiv (me_var (pv 0)) me_int) (me_var (pv 2))) ma_nil))))) mss_nil) (mss_cons (ms_if (mt_cmp (op_eqD hr.units) om_eq (me_op op_mod om_mod (me_op op_fdiv om_fdiv (me_var (pv 0)) me_int) me_int) me_int (nomark _)) (mss_one (ms_set (i := 3) sc__law_sequence.nd rfl (Or.inl rfl) (me_fl (ma_cons me_int (ma_cons me_int ma_nil))))) mss_nil) (mss_one (ms_ret (me_op or_add om_add (me_var (pv 3)) (me_fl (ma_cons (me_ix rfl (me_var (pv 1)) (me_op op_mod om_mod (me_op op_fdiv om_fdiv (me_var (pv 0)) me_int) (me_callB call_len_seq cm_len rfl T.n_len (by decide +kernel) (ma_cons (me_var (pv 1)) ma_nil)))) ma_nil))))))))
theorem ok__law_sequence (T : Txt K mg A) : FnOk P w K mg base CX0 2 A.a__law_sequence A.fd__law_sequence ["_law_x", "_law_finals", "_law_most"] (sp0 (cx K A) 3 d__law_sequence) := raw__law_sequence T
theorem raw__law_utf8 (T : Txt K mg A) : FnOk P w K mg base CX0 1 A.a__law_utf8 A.fd__law_utf8 ["_law_point"] (sp0 (cx K A) 1 r__law_utf8) :=
  fn_ok (N := ["_law_point"]) T.F__law_utf8 sc__law_utf8 rfl rfl fun cdv A1 outer sh H E hr => (mss_cons (ms_if (mt_cmp op_lt om_lt (me_var (pv 0)) me_int (nomark _)) (mss_one (ms_ret (me_fl (ma_cons (me_var (pv 0)) ma_nil)))) mss_nil) (mss_cons (ms_if (mt_cmp op_lt om_lt (me_var (pv 0)) me_int (nomark _)) (mss_one (ms_ret (me_fl (ma_cons (me_op or_add om_add me_int (me_op op_fdiv om_fdiv (me_var (pv 0)) me_int)) (ma_cons (me_op or_add om_add me_int (me_op op_mod om_mod (me_var (pv 0)) me_int)) ma_nil))))) mss_nil) (mss_cons (ms_if (mt_cmp op_lt om_lt (me_var (pv 0)) me_int (nomark _)) (mss_one (ms_ret (me_fl (ma_cons (me_op or_add om_add me_int (me_op op_fdiv om_fdiv (me_var (pv 0)) me_int)) (ma_cons (me_op or_add om_add me_int (me_op op_mod om_mod (me_op op_fdiv om_fdiv (me_var (pv 0)) me_int) me_int)) (ma_cons (me_op or_add om_add me_int (me_op op_mod om_mod (me_var (pv 0)) me_int)) ma_nil)))))) mss_nil) (mss_one (ms_ret (me_fl (ma_cons (me_op or_add om_add me_int (me_op op_fdiv om_fdiv (me_var (pv 0)) me_int)) (ma_cons (me_op or_add om_add me_int (me_op op_mod om_mod (me_op op_fdiv om_fdiv (me_var (pv 0)) me_int) me_int)) (ma_cons (me_op or_add om_add me_int (me_op op_mod om_mod (me_op op_fdiv om_fdiv (me_var (pv 0)) me_int) me_int)) (ma_cons (me_op or_add om_add me_int (me_op op_mod om_mod (me_var (pv 0)) me_int)) ma_nil))))))))))
theorem ok__law_utf8 (T : Txt K mg A) : FnOk P w K mg base CX0 1 A.a__law_utf8 A.fd__law_utf8 ["_law_point"] (sp0 (cx K A) 1 d__law_utf8) := raw__law_utf8 T
theorem raw__law_token (T : Txt K mg A) : FnOk P w K mg base CX0 3 A.a__law_token A.fd__law_token ["_law_kind", "_law_x"] (sp0 (cx K A) 2 r__law_token) :=
  fn_ok (N := ["_law_kind", "_law_x", "_law_moves", "_law_edits", "_law_scrolls", "_law_others", "_law_first"]) T.F__law_token sc__law_token rfl rfl fun cdv A1 outer sh H E hr => (mss_cons (ms_set (i := 2) sc__law_token.nd rfl (Or.inl rfl) (me_fl (ma_cons me_int (ma_cons me_int (ma_cons me_int (ma_cons me_int (ma_cons me_int (ma_cons me_int (ma_cons me_int (ma_cons me_int (ma_cons me_int (ma_cons me_int (ma_cons me_int (ma_cons me_int ma_nil)))))))))))))) (mss_cons (ms_set (i := 3) sc__law_token.nd rfl (Or.inl rfl) (me_fl (ma_cons me_int (ma_cons me_int (ma_cons me_int (ma_cons me_int (ma_cons me_int (ma_cons me_int (ma_cons me_int ma_nil))))))))) (mss_cons (ms_set (i := 4) sc__law_token.nd rfl (Or.inl rfl) (me_fl (ma_cons me_int (ma_cons me_int (ma_cons me_int (ma_cons me_int (ma_cons me_int (ma_cons me_int ma_nil)))))))) (mss_cons (ms_set (i := 5) sc__law_token.nd rfl (Or.inl rfl) (me_fl (ma_cons me_int (ma_cons me_int (ma_cons me_int (ma_cons me_int (ma_cons me_int (ma_cons me_int (ma_cons me_int (ma_cons me_int (ma_cons me_int ma_nil))))))))))) (mss_cons (ms_if (mt_cmp op_lt om_lt (me_var (pv 0)) me_int (nomark _)) (mss_one (ms_ret (me_op or_mul om_mul (me_fl (ma_cons (me_op or_add om_add me_int (me_op op_mod om_mod (me_var (pv 1)) me_int)) ma_nil)) (me_op or_add om_add me_int (me_op op_mod om_mod (me_op op_fdiv om_fdiv (me_var (pv 1)) me_int) me_int))))) mss_nil) (mss_cons (ms_if (mt_cmp (op_eqD hr.units) om_eq (me_var (pv 0)) me_int (nomark _)) (mss_one (ms_ret (me_call (ok__law_utf8 T) (hr.mono (by first | decide | omega | (simp only [Nat.add_eq]; omega))) rfl T.g__law_utf8 T.F__law_utf8.kp T.b__law_utf8 rfl (ma_cons (me_op or_add om_add (me_ix rfl (me_fl (ma_cons me_int (ma_cons me_int (ma_cons me_int (ma_cons me_int ma_nil))))) (me_op op_mod om_mod (me_var (pv 1)) me_int)) (me_op op_mod om_mod (me_op op_fdiv om_fdiv (me_var (pv 1)) me_int) me_int)) ma_nil)))) mss_nil) (mss_cons (ms_if (mt_cmp (op_eqD hr.units) om_eq (me_var (pv 0)) me_int (nomark _)) (mss_one (ms_ret (me_call (ok__law_utf8 T) (hr.mono (by first | decide | omega | (simp only [Nat.add_eq]; omega))) rfl T.g__law_utf8 T.F__law_utf8.kp T.b__law_utf8 rfl (ma_cons (me_op or_add om_add me_int (me_op op_mod om_mod (me_var (pv 1)) me_int)) ma_nil)))) mss_nil) (mss_cons (ms_if (mt_cmp (op_eqD hr.units) om_eq (me_var (pv 0)) me_int (nomark _)) (mss_one (ms_ret (me_fl (ma_cons (me_ix rfl (me_fl (ma_cons me_int (ma_cons me_int (ma_cons me_int (ma_cons me_int (ma_cons me_int (ma_cons me_int (ma_cons me_int (ma_cons me_int ma_nil))))))))) (me_op op_mod om_mod (me_var (pv 1)) me_int)) ma_nil)))) mss_nil) (mss_cons (ms_if (mt_cmp (op_eqD hr.units) om_eq (me_var (pv 0)) me_int (nomark _)) (mss_one (ms_ret (me_call (ok__law_sequence T) (hr.mono (by first | decide | omega | (simp only [Nat.add_eq]; omega))) rfl T.g__law_sequence T.F__law_sequence.kp T.b__law_sequence rfl (ma_cons (me_var (pv 1)) (ma_cons (me_var (pv 2)) (ma_cons me_int ma_nil)))))) mss_nil) (mss_cons (ms_if (mt_cmp (op_eqD hr.units) om_eq (me_var (pv 0)) me_int (nomark _)) (mss_one (ms_ret (me_call (ok__law_sequence T) (hr.mono (by first | decide | omega | (simp only [Nat.add_eq]; omega))) rfl T.g__law_sequence T.F__law_sequence.kp T.b__law_sequence rfl (ma_cons (me_var (pv 1)) (ma_cons (me_var (pv 3)) (ma_cons me_int ma_nil)))))) mss_nil) (mss_cons (ms_if (mt_cmp (op_eqD hr.units) om_eq (me_var (pv 0)) me_int (nomark _)) (mss_one (ms_ret (me_call (ok__law_sequence T) (hr.mono (by first | decide | omega | (simp only [Nat.add_eq]; omega))) rfl T.g__law_sequence T.F__law_sequence.kp T.b__law_sequence rfl (ma_cons (me_var (pv 1)) (ma_cons (me_var (pv 4)) (ma_cons me_int ma_nil)))))) mss_nil) (mss_cons (ms_if (mt_cmp (op_eqD hr.units) om_eq (me_var (pv 0)) me_int (nomark _)) (mss_one (ms_ret (me_call (ok__law_sequence T) (hr.mono (by first | decide | omega | (simp only [Nat.add_eq]; omega))) rfl T.g__law_sequence T.F__law_sequence.kp T.b__law_sequence rfl (ma_cons (me_var (pv 1)) (ma_cons (me_var (pv 5)) (ma_cons me_int ma_nil)))))) mss_nil) (mss_cons (ms_if (mt_cmp (op_eqD hr.units) om_eq (me_var (pv 0)) me_int (nomark _)) (mss_one (ms_ret (me_op or_add om_add (me_op or_add om_add (me_fl (ma_cons me_int (ma_cons me_int (ma_cons me_int ma_nil)))) (me_call (ok__law_digits T) (hr.mono (by first | decide | omega | (simp only [Nat.add_eq]; omega))) rfl T.g__law_digits T.F__law_digits.kp T.b__law_digits rfl (ma_cons (me_ix rfl (me_fl (ma_cons me_int (ma_cons me_int (ma_cons me_int (ma_cons me_int (ma_cons me_int (ma_cons me_int ma_nil))))))) (me_op op_mod om_mod (me_var (pv 1)) me_int)) ma_nil))) (me_fl (ma_cons (me_op or_add om_add me_int (me_op or_mul om_mul me_int (me_op op_mod om_mod (me_op op_fdiv om_fdiv (me_var (pv 1)) me_int) me_int))) ma_nil))))) mss_nil) (mss_cons (ms_if (mt_cmp (op_eqD hr.units) om_eq (me_var (pv 0)) me_int (nomark _)) (mss_one (ms_ret (me_fl (ma_cons me_int (ma_cons (me_ix rfl (me_fl (ma_cons me_int (ma_cons me_int (ma_cons me_int (ma_cons me_int (ma_cons me_int (ma_cons me_int (ma_cons me_int (ma_cons me_int ma_nil))))))))) (me_op op_mod om_mod (me_var (pv 1)) me_int)) ma_nil))))) mss_nil) (mss_cons (ms_if (mt_cmp (op_eqD hr.units) om_eq (me_var (pv 0)) me_int (nomark _)) (mss_cons (ms_set (i := 6) sc__law_token.nd rfl (Or.inl rfl) (me_ix rfl (me_fl (ma_cons me_int (ma_cons me_int (ma_cons me_int (ma_cons me_int (ma_cons me_int (ma_cons me_int (ma_cons me_int (ma_cons me_int (ma_cons me_int (ma_cons me_int (ma_cons me_int (ma_cons me_int (ma_cons me_int (ma_cons me_int (ma_cons me_int (ma_cons me_int ma_nil))))))))))))))))) (me_op op_mod om_mod (me_var (pv 1)) me_int))) (mss_one (ms_ret (me_op or_add om_add (me_op or_add om_add (me_op or_add om_add (me_op or_add om_add (me_fl (ma_cons me_int (ma_cons me_int ma_nil))) (me_call (ok__law_digits T) (hr.mono (by first | decide | omega | (simp only [Nat.add_eq]; omega))) rfl T.g__law_digits T.F__law_digits.kp T.b__law_digits rfl (ma_cons (me_var (pv 6)) ma_nil))) (me_fl (ma_cons me_int (ma_cons me_int (ma_cons me_int ma_nil))))) (me_call (ok__law_digits T) (hr.mono (by first | decide | omega | (simp only [Nat.add_eq]; omega))) rfl T.g__law_digits T.F__law_digits.kp T.b__law_digits rfl (ma_cons (me_op op_mod om_mod (me_op op_fdiv om_fdiv (me_var (pv 1)) me_int) me_int) ma_nil))) (me_fl (ma_cons me_int ma_nil)))))) mss_nil) (mss_cons (ms_if (mt_cmp (op_eqD hr.units) om_eq (me_var (pv 0)) me_int (nomark _)) (mss_one (ms_ret (me_op or_add om_add (me_op or_add om_add (me_fl (ma_cons me_int (ma_cons me_int (ma_cons (me_op or_add om_add me_int (me_op op_mod om_mod (me_var (pv 1)) me_int)) (ma_cons me_int ma_nil))))) (me_op or_mul om_mul (me_fl (ma_cons (me_op or_add om_add me_int (me_op op_mod om_mod (me_op op_fdiv om_fdiv (me_var (pv 1)) me_int) me_int)) ma_nil)) (me_op op_mod om_mod (me_op op_fdiv om_fdiv (me_var (pv 1)) me_int) me_int))) (me_ix rfl (me_fl (ma_cons (me_fl (ma_cons me_int ma_nil)) (ma_cons (me_fl (ma_cons me_int (ma_cons me_int ma_nil))) ma_nil))) (me_op op_mod om_mod (me_op op_fdiv om_fdiv (me_var (pv 1)) me_int) me_int))))) mss_nil) (mss_one (ms_ret (me_fl (ma_cons (me_op op_mod om_mod (me_var (pv 1)) me_int) (ma_cons (me_op op_mod om_mod (me_op op_fdiv om_fdiv (me_var (pv 1)) me_int) me_int) (ma_cons (me_op op_mod om_mod (me_op op_fdiv om_fdiv (me_var (pv 1)) me_int) me_int) ma_nil))))))))))))))))))))))
theorem ok__law_token (T : Txt K mg A) : FnOk P w K mg base CX0 3 A.a__law_token A.fd__law_token ["_law_kind", "_law_x"] (sp0 (cx K A) 2 d__law_token) := raw__law_token T
theorem raw__law_stream (T : Txt K mg A) : FnOk P w K mg base CX0 4 A.a__law_stream A.fd__law_stream ["_law_cells", "_law_kinds"] (sp0 (cx K A) 2 r__law_stream) :=
  fn_ok (N := ["_law_cells", "_law_kinds", "_law_data", "_law_cell_here", "_law_drawn", "_law_k"]) T.F__law_stream sc__law_stream rfl rfl fun cdv A1 outer sh H E hr => (mss_cons (ms_set (i := 2) sc__law_stream.nd rfl (Or.inl rfl) (me_fl ma_nil)) (mss_cons (ms_for PassesOwn.never rfl (mi_seq rfl (me_var (pv 0))) (mg_name (i := 3) sc__law_stream.nd rfl (Or.inl rfl)) (mss_cons (ms_set (i := 4) sc__law_stream.nd rfl (Or.inl rfl) (me_call (ok__law_row T) (hr.mono (by first | decide | omega | (simp only [Nat.add_eq]; omega))) rfl T.g__law_row T.F__law_row.kp T.b__law_row rfl (ma_cons (me_var (pv 3)) (ma_cons me_int (ma_cons me_int ma_nil))))) (mss_one (ms_for PassesOwn.never rfl (mi_range1 rfl T.n_range (ma_cons me_int ma_nil)) (mg_name (i := 5) sc__law_stream.nd rfl (Or.inl rfl)) (mss_one (ms_set (i := 2) sc__law_stream.nd rfl (Or.inl rfl) (me_op or_add om_add (me_var (pv 2)) (me_call (ok__law_token T) (hr.mono (by first | decide | omega | (simp only [Nat.add_eq]; omega))) rfl T.g__law_token T.F__law_token.kp T.b__law_token rfl (ma_cons (me_ix rfl (me_var (pv 1)) (me_op op_mod om_mod (me_ix rfl (me_var (pv 4)) (me_op or_mul om_mul me_int (me_var (pv 5)))) (me_callB call_len_seq cm_len rfl T.n_len (by decide +kernel) (ma_cons (me_var (pv 1)) ma_nil)))) (ma_cons (me_ix rfl (me_var (pv 4)) (me_op or_add om_add (me_op or_mul om_mul me_int (me_var (pv 5))) me_int)) ma_nil)))))))))) (mss_one (ms_ret (me_var (pv 2))))))
theorem ok__law_stream (T : Txt K mg A) : FnOk P w K mg base CX0 4 A.a__law_stream A.fd__law_stream ["_law_cells", "_law_kinds"] (sp0 (cx K A) 2 d__law_stream) := raw__law_stream T
theorem raw_law (T : Txt K mg A) : FnOk P w K mg base CX0 8 A.a_law A.fd_law ["_law_script"] (sp0 (cx K A) 1 r_law) :=
  fn_ok (N := ["_law_script", "_law_data", "_law_pieces", "_law_whole", "_law_expected", "_law_parser", "_law_other", "_law_actual", "_law_piece", "_law_news"]) T.F_law sc_law rfl rfl fun cdv A1 outer sh H E hr => (mss_cons (ms_set (i := 1) sc_law.nd rfl (Or.inl rfl) (me_call (ok__law_stream T) (hr.mono (by first | decide | omega | (simp only [Nat.add_eq]; omega))) rfl T.g__law_stream T.F__law_stream.kp T.b__law_stream rfl (ma_cons (me_sl rfl sm_sl (me_var (pv 0)) mo_none (mo_some me_int)) (ma_cons (me_fl (ma_cons me_int (ma_cons me_int (ma_cons me_int (ma_cons me_int (ma_cons me_int (ma_cons me_int (ma_cons me_int (ma_cons me_int (ma_cons me_int (ma_cons me_int (ma_cons me_int (ma_cons me_int ma_nil))))))))))))) ma_nil)))) (mss_cons (ms_set (i := 2) sc_law.nd rfl (Or.inl rfl) (me_call (ok__law_cuts T) (hr.mono (by first | decide | omega | (simp only [Nat.add_eq]; omega))) rfl T.g__law_cuts T.F__law_cuts.kp T.b__law_cuts rfl (ma_cons (me_var (pv 1)) (ma_cons (me_sl rfl sm_sl (me_var (pv 0)) (mo_some me_int) (mo_some me_int)) ma_nil)))) (mss_cons (ms_set (i := 3) sc_law.nd rfl (Or.inl rfl) (me_make0 (cx_Parser K A) T.mk_Parser (ok_Parser_init T) (hr.mono (by first | decide | omega | (simp only [Nat.add_eq]; omega))) rfl T.gc_Parser T.b_Parser_init)) (mss_cons (ms_set (i := 4) sc_law.nd rfl (Or.inl rfl) (ML.me_meth (me_var (pv 3)) (cx_Parser K A) (by decide +kernel) T.cl_Parser T.m_Parser_take (ok_Parser_take T) (hr.mono (by first | decide | omega | (simp only [Nat.add_eq]; omega))) T.b_Parser_take rfl (ma_cons (me_callTy call_list_of cm_list rfl T.n_list (by decide +kernel) (ma_cons (me_var (pv 1)) ma_nil)) ma_nil))) (mss_cons (ms_set (i := 5) sc_law.nd rfl (Or.inl rfl) (me_make0 (cx_Parser K A) T.mk_Parser (ok_Parser_init T) (hr.mono (by first | decide | omega | (simp only [Nat.add_eq]; omega))) rfl T.gc_Parser T.b_Parser_init)) (mss_cons (ms_set (i := 6) sc_law.nd rfl (Or.inl rfl) (me_make0 (cx_Parser K A) T.mk_Parser (ok_Parser_init T) (hr.mono (by first | decide | omega | (simp only [Nat.add_eq]; omega))) rfl T.gc_Parser T.b_Parser_init)) (mss_cons (ms_set (i := 7) sc_law.nd rfl (Or.inl rfl) (me_fl ma_nil)) (mss_cons (ms_for PassesOwn.never rfl (mi_seq rfl (me_var (pv 2))) (mg_name (i := 8) sc_law.nd rfl (Or.inl rfl)) (mss_cons (ms_set (i := 9) sc_law.nd rfl (Or.inl rfl) (ML.me_meth (me_var (pv 5)) (cx_Parser K A) (by decide +kernel) T.cl_Parser T.m_Parser_take (ok_Parser_take T) (hr.mono (by first | decide | omega | (simp only [Nat.add_eq]; omega))) T.b_Parser_take rfl (ma_cons (me_callTy call_list_of cm_list rfl T.n_list (by decide +kernel) (ma_cons (me_var (pv 8)) ma_nil)) ma_nil))) (mss_cons (ms_set (i := 7) sc_law.nd rfl (Or.inl rfl) (me_op or_add om_add (me_var (pv 7)) (me_var (pv 9)))) (mss_cons (ms_expr (me_lm rfl mm_append PySem.F.slot_list_append PySem.F.type_list_append mt_append (me_var (pv 9)) (ma_cons (me_tup (ma_cons me_str (ma_cons me_int ma_nil))) ma_nil))) (mss_one (ms_expr (ML.me_meth (me_var (pv 6)) (cx_Parser K A) (by decide +kernel) T.cl_Parser T.m_Parser_take (ok_Parser_take T) (hr.mono (by first | decide | omega | (simp only [Nat.add_eq]; omega))) T.b_Parser_take rfl (ma_cons (me_fl (ma_cons me_int (ma_cons me_int (ma_cons me_int (ma_cons me_int (ma_cons me_int ma_nil)))))) ma_nil)))))))) (mss_one (ms_ret (me_and (me_cmp (op_eqD hr.units) om_eq (me_var (pv 7)) (me_var (pv 4)) (nomark _)) (me_one (me_cmp (op_eqD hr.units) om_eq (me_meth0 (pl := _) (me_var (pv 5)) (cx_Parser K A) (by decide +kernel) T.cl_Parser T.m_Parser_resting (ok_Parser_resting T) (hr.mono (by first | decide | omega | (simp only [Nat.add_eq]; omega))) T.b_Parser_resting) (me_meth0 (pl := _) (me_var (pv 3)) (cx_Parser K A) (by decide +kernel) T.cl_Parser T.m_Parser_resting (ok_Parser_resting T) (hr.mono (by first | decide | omega | (simp only [Nat.add_eq]; omega))) T.b_Parser_resting) (nomark _))))))))))))))
theorem ok_law (T : Txt K mg A) : FnOk P w K mg base CX0 8 A.a_law A.fd_law ["_law_script"] (sp0 (cx K A) 1 d_law) := raw_law T
end
end Kd

namespace Kd
open PySem L2 ML
theorem all_mk {l : PySem.W.OpenLaw} {w : World} {K : PySem.W.Frag} {h : Heap} {mg : Str → Option Value} {fa : Addr} (X : K.In h) (G : h.Ns mainGlobals mg) (hfa : mg "law" = some (.ref fa))
  {f0 : Addr} {od0 an0 : Option Addr} {sl0 : Array (Option Value)} {oc0 kV0 dc0 pm0 cd0 ct0 : Value}
  {f1 : Addr} {od1 an1 : Option Addr} {sl1 : Array (Option Value)} {oc1 kV1 dc1 pm1 cd1 ct1 : Value}
  {f2 : Addr} {od2 an2 : Option Addr} {sl2 : Array (Option Value)} {oc2 kV2 dc2 pm2 cd2 ct2 : Value}
  {f3 : Addr} {od3 an3 : Option Addr} {sl3 : Array (Option Value)} {oc3 kV3 dc3 pm3 cd3 ct3 : Value}
  {f4 : Addr} {od4 an4 : Option Addr} {sl4 : Array (Option Value)} {oc4 kV4 dc4 pm4 cd4 ct4 : Value}
  {f5 : Addr} {od5 an5 : Option Addr} {sl5 : Array (Option Value)} {oc5 kV5 dc5 pm5 cd5 ct5 : Value}
  {f6 : Addr} {od6 an6 : Option Addr} {sl6 : Array (Option Value)} {oc6 kV6 dc6 pm6 cd6 ct6 : Value}
  {f7 : Addr} {od7 an7 : Option Addr} {sl7 : Array (Option Value)} {oc7 kV7 dc7 pm7 cd7 ct7 : Value}
  {f8 : Addr} {od8 an8 : Option Addr} {sl8 : Array (Option Value)} {oc8 kV8 dc8 pm8 cd8 ct8 : Value}
  {f9 : Addr} {od9 an9 : Option Addr} {sl9 : Array (Option Value)} {oc9 kV9 dc9 pm9 cd9 ct9 : Value}
  {f10 : Addr} {od10 an10 : Option Addr} {sl10 : Array (Option Value)} {oc10 kV10 dc10 pm10 cd10 ct10 : Value}
  {f11 : Addr} {od11 an11 : Option Addr} {sl11 : Array (Option Value)} {oc11 kV11 dc11 pm11 cd11 ct11 : Value}
  {f12 : Addr} {od12 an12 : Option Addr} {sl12 : Array (Option Value)} {oc12 kV12 dc12 pm12 cd12 ct12 : Value}
  {f13 : Addr} {od13 an13 : Option Addr} {sl13 : Array (Option Value)} {oc13 kV13 dc13 pm13 cd13 ct13 : Value}
  {f14 : Addr} {od14 an14 : Option Addr} {sl14 : Array (Option Value)} {oc14 kV14 dc14 pm14 cd14 ct14 : Value}
  {f15 : Addr} {od15 an15 : Option Addr} {sl15 : Array (Option Value)} {oc15 kV15 dc15 pm15 cd15 ct15 : Value}
  {f16 : Addr} {od16 an16 : Option Addr} {sl16 : Array (Option Value)} {oc16 kV16 dc16 pm16 cd16 ct16 : Value}
  {f17 : Addr} {od17 an17 : Option Addr} {sl17 : Array (Option Value)} {oc17 kV17 dc17 pm17 cd17 ct17 : Value}
  {f18 : Addr} {od18 an18 : Option Addr} {sl18 : Array (Option Value)} {oc18 kV18 dc18 pm18 cd18 ct18 : Value}
  {f19 : Addr} {od19 an19 : Option Addr} {sl19 : Array (Option Value)} {oc19 kV19 dc19 pm19 cd19 ct19 : Value}
  {CParser : Addr}
  {t_GROUND : Tok}
  {t_UNKNOWN : Tok}
  {t_STRING : Tok}
  {t_STRING_END : Tok}
  {t_ESCAPE : Tok}
  {t_SEQUENCE : Tok}
  {t_INTERMEDIATE : Tok}
  {t_LARGEST_POINT : Tok}
  {t_MOST_NUMBERS : Tok}
  {t_LARGEST_NUMBER : Tok}
  {t_LONGEST_TITLE : Tok}
  {t_LONGEST_STRING : Tok}
  {tk0_0 : Tok}
  {tk0_1 : Tok}
  {q0 : Addr} {qd0 : Option Addr} {qn0 : Nat} {qs0 : Array (Option Value)}
  {tk1_0 : Tok}
  {tk1_1 : Tok}
  {tk1_2 : Tok}
  {tk1_3 : Tok}
  {tk1_4 : Tok}
  {q1 : Addr} {qd1 : Option Addr} {qn1 : Nat} {qs1 : Array (Option Value)}
  {tk2_0 : Tok}
  {tk2_1 : Tok}
  {tk2_2 : Tok}
  {tk2_3 : Tok}
  {q2 : Addr} {qd2 : Option Addr} {qn2 : Nat} {qs2 : Array (Option Value)}
  (aCParser : PySem.W.nsIn K mainGlobals "Parser" = some (some (.ref CParser)))
  (a0 : PySem.W.findIn K (.ref CParser) "__init__" = some (some (.ref f0)))
  (i0 : PySem.W.isFn K (.ref f0) = true)
  (l0 : K.lookup f0 = some ⟨oc0, od0, .func (PySem.W.fnOf "__init__" "Parser.__init__" (defArgs s_Parser_init) (defBody s_Parser_init) (defScope s_Parser_init) .none kV0 dc0 pm0 an0 cd0 ct0), sl0⟩)
  (c0 : PySem.W.codeIn K cd0 "Parser.__init__" = true)
  (k0 : PySem.W.keepIn K (.ref f0) = true)
  (a1 : PySem.W.findIn K (.ref CParser) "resting" = some (some (.ref f1)))
  (i1 : PySem.W.isFn K (.ref f1) = true)
  (l1 : K.lookup f1 = some ⟨oc1, od1, .func (PySem.W.fnOf "resting" "Parser.resting" (defArgs s_Parser_resting) (defBody s_Parser_resting) (defScope s_Parser_resting) .none kV1 dc1 pm1 an1 cd1 ct1), sl1⟩)
  (c1 : PySem.W.codeIn K cd1 "Parser.resting" = true)
  (k1 : PySem.W.keepIn K (.ref f1) = true)
  (a2 : PySem.W.findIn K (.ref CParser) "escape_step" = some (some (.ref f2)))
  (i2 : PySem.W.isFn K (.ref f2) = true)
  (l2 : K.lookup f2 = some ⟨oc2, od2, .func (PySem.W.fnOf "escape_step" "Parser.escape_step" (defArgs s_Parser_escape_step) (defBody s_Parser_escape_step) (defScope s_Parser_escape_step) .none kV2 dc2 pm2 an2 cd2 ct2), sl2⟩)
  (c2 : PySem.W.codeIn K cd2 "Parser.escape_step" = true)
  (k2 : PySem.W.keepIn K (.ref f2) = true)
  (a3 : PySem.W.nsIn K mainGlobals "is_point" = some (some (.ref f3)))
  (l3 : K.lookup f3 = some ⟨oc3, od3, .func (PySem.W.fnOf "is_point" "is_point" (defArgs s_is_point) (defBody s_is_point) (defScope s_is_point) .none kV3 dc3 pm3 an3 cd3 ct3), sl3⟩)
  (c3 : PySem.W.codeIn K cd3 "is_point" = true)
  (k3 : PySem.W.keepIn K (.ref f3) = true)
  (a4 : PySem.W.findIn K (.ref CParser) "further_step" = some (some (.ref f4)))
  (i4 : PySem.W.isFn K (.ref f4) = true)
  (l4 : K.lookup f4 = some ⟨oc4, od4, .func (PySem.W.fnOf "further_step" "Parser.further_step" (defArgs s_Parser_further_step) (defBody s_Parser_further_step) (defScope s_Parser_further_step) .none kV4 dc4 pm4 an4 cd4 ct4), sl4⟩)
  (c4 : PySem.W.codeIn K cd4 "Parser.further_step" = true)
  (k4 : PySem.W.keepIn K (.ref f4) = true)
  (a5 : PySem.W.findIn K (.ref CParser) "ground_step" = some (some (.ref f5)))
  (i5 : PySem.W.isFn K (.ref f5) = true)
  (l5 : K.lookup f5 = some ⟨oc5, od5, .func (PySem.W.fnOf "ground_step" "Parser.ground_step" (defArgs s_Parser_ground_step) (defBody s_Parser_ground_step) (defScope s_Parser_ground_step) .none kV5 dc5 pm5 an5 cd5 ct5), sl5⟩)
  (c5 : PySem.W.codeIn K cd5 "Parser.ground_step" = true)
  (k5 : PySem.W.keepIn K (.ref f5) = true)
  (a6 : PySem.W.findIn K (.ref CParser) "sequence_step" = some (some (.ref f6)))
  (i6 : PySem.W.isFn K (.ref f6) = true)
  (l6 : K.lookup f6 = some ⟨oc6, od6, .func (PySem.W.fnOf "sequence_step" "Parser.sequence_step" (defArgs s_Parser_sequence_step) (defBody s_Parser_sequence_step) (defScope s_Parser_sequence_step) .none kV6 dc6 pm6 an6 cd6 ct6), sl6⟩)
  (c6 : PySem.W.codeIn K cd6 "Parser.sequence_step" = true)
  (k6 : PySem.W.keepIn K (.ref f6) = true)
  (a7 : PySem.W.findIn K (.ref CParser) "end_of_string" = some (some (.ref f7)))
  (i7 : PySem.W.isFn K (.ref f7) = true)
  (l7 : K.lookup f7 = some ⟨oc7, od7, .func (PySem.W.fnOf "end_of_string" "Parser.end_of_string" (defArgs s_Parser_end_of_string) (defBody s_Parser_end_of_string) (defScope s_Parser_end_of_string) .none kV7 dc7 pm7 an7 cd7 ct7), sl7⟩)
  (c7 : PySem.W.codeIn K cd7 "Parser.end_of_string" = true)
  (k7 : PySem.W.keepIn K (.ref f7) = true)
  (a8 : PySem.W.findIn K (.ref CParser) "step" = some (some (.ref f8)))
  (i8 : PySem.W.isFn K (.ref f8) = true)
  (l8 : K.lookup f8 = some ⟨oc8, od8, .func (PySem.W.fnOf "step" "Parser.step" (defArgs s_Parser_step) (defBody s_Parser_step) (defScope s_Parser_step) .none kV8 dc8 pm8 an8 cd8 ct8), sl8⟩)
  (c8 : PySem.W.codeIn K cd8 "Parser.step" = true)
  (k8 : PySem.W.keepIn K (.ref f8) = true)
  (a9 : PySem.W.findIn K (.ref CParser) "string_end_step" = some (some (.ref f9)))
  (i9 : PySem.W.isFn K (.ref f9) = true)
  (l9 : K.lookup f9 = some ⟨oc9, od9, .func (PySem.W.fnOf "string_end_step" "Parser.string_end_step" (defArgs s_Parser_string_end_step) (defBody s_Parser_string_end_step) (defScope s_Parser_string_end_step) .none kV9 dc9 pm9 an9 cd9 ct9), sl9⟩)
  (c9 : PySem.W.codeIn K cd9 "Parser.string_end_step" = true)
  (k9 : PySem.W.keepIn K (.ref f9) = true)
  (a10 : PySem.W.findIn K (.ref CParser) "string_step" = some (some (.ref f10)))
  (i10 : PySem.W.isFn K (.ref f10) = true)
  (l10 : K.lookup f10 = some ⟨oc10, od10, .func (PySem.W.fnOf "string_step" "Parser.string_step" (defArgs s_Parser_string_step) (defBody s_Parser_string_step) (defScope s_Parser_string_step) .none kV10 dc10 pm10 an10 cd10 ct10), sl10⟩)
  (c10 : PySem.W.codeIn K cd10 "Parser.string_step" = true)
  (k10 : PySem.W.keepIn K (.ref f10) = true)
  (a11 : PySem.W.findIn K (.ref CParser) "take" = some (some (.ref f11)))
  (i11 : PySem.W.isFn K (.ref f11) = true)
  (l11 : K.lookup f11 = some ⟨oc11, od11, .func (PySem.W.fnOf "take" "Parser.take" (defArgs s_Parser_take) (defBody s_Parser_take) (defScope s_Parser_take) .none kV11 dc11 pm11 an11 cd11 ct11), sl11⟩)
  (c11 : PySem.W.codeIn K cd11 "Parser.take" = true)
  (k11 : PySem.W.keepIn K (.ref f11) = true)
  (a12 : PySem.W.nsIn K mainGlobals "_law_cuts" = some (some (.ref f12)))
  (l12 : K.lookup f12 = some ⟨oc12, od12, .func (PySem.W.fnOf "_law_cuts" "_law_cuts" (defArgs s__law_cuts) (defBody s__law_cuts) (defScope s__law_cuts) .none kV12 dc12 pm12 an12 cd12 ct12), sl12⟩)
  (c12 : PySem.W.codeIn K cd12 "_law_cuts" = true)
  (k12 : PySem.W.keepIn K (.ref f12) = true)
  (a13 : PySem.W.nsIn K mainGlobals "_law_row" = some (some (.ref f13)))
  (l13 : K.lookup f13 = some ⟨oc13, od13, .func (PySem.W.fnOf "_law_row" "_law_row" (defArgs s__law_row) (defBody s__law_row) (defScope s__law_row) .none kV13 dc13 pm13 an13 cd13 ct13), sl13⟩)
  (c13 : PySem.W.codeIn K cd13 "_law_row" = true)
  (k13 : PySem.W.keepIn K (.ref f13) = true)
  (a14 : PySem.W.nsIn K mainGlobals "_law_digits" = some (some (.ref f14)))
  (l14 : K.lookup f14 = some ⟨oc14, od14, .func (PySem.W.fnOf "_law_digits" "_law_digits" (defArgs s__law_digits) (defBody s__law_digits) (defScope s__law_digits) .none kV14 dc14 pm14 an14 cd14 ct14), sl14⟩)
  (c14 : PySem.W.codeIn K cd14 "_law_digits" = true)
  (k14 : PySem.W.keepIn K (.ref f14) = true)
  (a15 : PySem.W.nsIn K mainGlobals "_law_sequence" = some (some (.ref f15)))
  (l15 : K.lookup f15 = some ⟨oc15, od15, .func (PySem.W.fnOf "_law_sequence" "_law_sequence" (defArgs s__law_sequence) (defBody s__law_sequence) (defScope s__law_sequence) .none kV15 dc15 pm15 an15 cd15 ct15), sl15⟩)
  (c15 : PySem.W.codeIn K cd15 "_law_sequence" = true)
  (k15 : PySem.W.keepIn K (.ref f15) = true)
  (a16 : PySem.W.nsIn K mainGlobals "_law_utf8" = some (some (.ref f16)))
  (l16 : K.lookup f16 = some ⟨oc16, od16, .func (PySem.W.fnOf "_law_utf8" "_law_utf8" (defArgs s__law_utf8) (defBody s__law_utf8) (defScope s__law_utf8) .none kV16 dc16 pm16 an16 cd16 ct16), sl16⟩)
  (c16 : PySem.W.codeIn K cd16 "_law_utf8" = true)
  (k16 : PySem.W.keepIn K (.ref f16) = true)
  (a17 : PySem.W.nsIn K mainGlobals "_law_token" = some (some (.ref f17)))
  (l17 : K.lookup f17 = some ⟨oc17, od17, .func (PySem.W.fnOf "_law_token" "_law_token" (defArgs s__law_token) (defBody s__law_token) (defScope s__law_token) .none kV17 dc17 pm17 an17 cd17 ct17), sl17⟩)
  (c17 : PySem.W.codeIn K cd17 "_law_token" = true)
  (k17 : PySem.W.keepIn K (.ref f17) = true)
  (a18 : PySem.W.nsIn K mainGlobals "_law_stream" = some (some (.ref f18)))
  (l18 : K.lookup f18 = some ⟨oc18, od18, .func (PySem.W.fnOf "_law_stream" "_law_stream" (defArgs s__law_stream) (defBody s__law_stream) (defScope s__law_stream) .none kV18 dc18 pm18 an18 cd18 ct18), sl18⟩)
  (c18 : PySem.W.codeIn K cd18 "_law_stream" = true)
  (k18 : PySem.W.keepIn K (.ref f18) = true)
  (a19 : PySem.W.nsIn K mainGlobals "law" = some (some (.ref f19)))
  (l19 : K.lookup f19 = some ⟨oc19, od19, .func (PySem.W.fnOf "law" "law" (defArgs s_law) (defBody s_law) (defScope s_law) .none kV19 dc19 pm19 an19 cd19 ct19), sl19⟩)
  (c19 : PySem.W.codeIn K cd19 "law" = true)
  (k19 : PySem.W.keepIn K (.ref f19) = true)
  (pgParser : PySem.W.plainGet K CParser Str.empty = true)
  (hdParser : PySem.W.hasDictIn K CParser = true)
  (poParser : PySem.W.plainOver K CParser = true)
  (saParser : PySem.W.findIn K (.ref CParser) "__setattr__" = some (some (.builtin "object.__setattr__")))
  (mkParser : PySem.W.makesIn K CParser = true)
  (kcParser : PySem.W.keepIn K (.ref CParser) = true)
  (nParser_mode : PySem.W.findIn K (.ref CParser) "mode" = some none)
  (nParser_missing : PySem.W.findIn K (.ref CParser) "missing" = some none)
  (nParser_further : PySem.W.findIn K (.ref CParser) "further" = some none)
  (nParser_number : PySem.W.findIn K (.ref CParser) "number" = some none)
  (nParser_private : PySem.W.findIn K (.ref CParser) "private" = some none)
  (nParser_numbers : PySem.W.findIn K (.ref CParser) "numbers" = some none)
  (nParser_valid : PySem.W.findIn K (.ref CParser) "valid" = some none)
  (nParser_is_first : PySem.W.findIn K (.ref CParser) "is_first" = some none)
  (nParser_is_title : PySem.W.findIn K (.ref CParser) "is_title" = some none)
  (nParser_string : PySem.W.findIn K (.ref CParser) "string" = some none)
  (z_abs : PySem.W.nsIn K mainGlobals "abs" = some none)
  (z_int : PySem.W.nsIn K mainGlobals "int" = some none)
  (z_len : PySem.W.nsIn K mainGlobals "len" = some none)
  (z_list : PySem.W.nsIn K mainGlobals "list" = some none)
  (z_min : PySem.W.nsIn K mainGlobals "min" = some none)
  (z_ord : PySem.W.nsIn K mainGlobals "ord" = some none)
  (z_range : PySem.W.nsIn K mainGlobals "range" = some none)
  (z_sorted : PySem.W.nsIn K mainGlobals "sorted" = some none)
  (z_str : PySem.W.nsIn K mainGlobals "str" = some none)
  (z_tuple : PySem.W.nsIn K mainGlobals "tuple" = some none)
  (v_GROUND : PySem.W.nsIn K mainGlobals "GROUND" = some (some (.int 0 t_GROUND)))
  (v_UNKNOWN : PySem.W.nsIn K mainGlobals "UNKNOWN" = some (some (.int 65533 t_UNKNOWN)))
  (v_STRING : PySem.W.nsIn K mainGlobals "STRING" = some (some (.int 4 t_STRING)))
  (v_STRING_END : PySem.W.nsIn K mainGlobals "STRING_END" = some (some (.int 5 t_STRING_END)))
  (v_ESCAPE : PySem.W.nsIn K mainGlobals "ESCAPE" = some (some (.int 1 t_ESCAPE)))
  (v_SEQUENCE : PySem.W.nsIn K mainGlobals "SEQUENCE" = some (some (.int 3 t_SEQUENCE)))
  (v_INTERMEDIATE : PySem.W.nsIn K mainGlobals "INTERMEDIATE" = some (some (.int 2 t_INTERMEDIATE)))
  (v_LARGEST_POINT : PySem.W.nsIn K mainGlobals "LARGEST_POINT" = some (some (.int 1114111 t_LARGEST_POINT)))
  (v_MOST_NUMBERS : PySem.W.nsIn K mainGlobals "MOST_NUMBERS" = some (some (.int 16 t_MOST_NUMBERS)))
  (v_LARGEST_NUMBER : PySem.W.nsIn K mainGlobals "LARGEST_NUMBER" = some (some (.int 9999 t_LARGEST_NUMBER)))
  (v_LONGEST_TITLE : PySem.W.nsIn K mainGlobals "LONGEST_TITLE" = some (some (.int 64 t_LONGEST_TITLE)))
  (v_LONGEST_STRING : PySem.W.nsIn K mainGlobals "LONGEST_STRING" = some (some (.int 256 t_LONGEST_STRING)))
  (gq_CANCEL : PySem.W.nsIn K mainGlobals "CANCEL" = some (some (.ref q0)))
  (q_0 : K.lookup q0 = some ⟨.type "tuple", qd0, .seq #[.int 24 tk0_0, .int 26 tk0_1] qn0, qs0⟩)
  (gq_STRING_STARTS : PySem.W.nsIn K mainGlobals "STRING_STARTS" = some (some (.ref q1)))
  (q_1 : K.lookup q1 = some ⟨.type "tuple", qd1, .seq #[.int 80 tk1_0, .int 88 tk1_1, .int 93 tk1_2, .int 94 tk1_3, .int 95 tk1_4] qn1, qs1⟩)
  (gq_LEAST_OF_LENGTH : PySem.W.nsIn K mainGlobals "LEAST_OF_LENGTH" = some (some (.ref q2)))
  (q_2 : K.lookup q2 = some ⟨.type "tuple", qd2, .seq #[.int 0 tk2_0, .int 128 tk2_1, .int 2048 tk2_2, .int 65536 tk2_3] qn2, qs2⟩) :
  ∃ fd : FuncData, (∀ (s : Shared) (v : Value), BindsTo s fd ⟨[v], []⟩ [("_law_script", v)]) ∧ ∀ base : Heap, K.In base → base.Ns mainGlobals mg → FnOk l.prog w K mg base CX0 8 fa fd ["_law_script"] (spLaw K) := by
  have e := hfa.symm.trans (PySem.W.mg_of X G a19)
  cases e
  have T : Txt K mg ⟨f0, (PySem.W.fnOf "__init__" "Parser.__init__" (defArgs s_Parser_init) (defBody s_Parser_init) (defScope s_Parser_init) .none kV0 dc0 pm0 an0 cd0 ct0), f1, (PySem.W.fnOf "resting" "Parser.resting" (defArgs s_Parser_resting) (defBody s_Parser_resting) (defScope s_Parser_resting) .none kV1 dc1 pm1 an1 cd1 ct1), f2, (PySem.W.fnOf "escape_step" "Parser.escape_step" (defArgs s_Parser_escape_step) (defBody s_Parser_escape_step) (defScope s_Parser_escape_step) .none kV2 dc2 pm2 an2 cd2 ct2), f3, (PySem.W.fnOf "is_point" "is_point" (defArgs s_is_point) (defBody s_is_point) (defScope s_is_point) .none kV3 dc3 pm3 an3 cd3 ct3), f4, (PySem.W.fnOf "further_step" "Parser.further_step" (defArgs s_Parser_further_step) (defBody s_Parser_further_step) (defScope s_Parser_further_step) .none kV4 dc4 pm4 an4 cd4 ct4), f5, (PySem.W.fnOf "ground_step" "Parser.ground_step" (defArgs s_Parser_ground_step) (defBody s_Parser_ground_step) (defScope s_Parser_ground_step) .none kV5 dc5 pm5 an5 cd5 ct5), f6, (PySem.W.fnOf "sequence_step" "Parser.sequence_step" (defArgs s_Parser_sequence_step) (defBody s_Parser_sequence_step) (defScope s_Parser_sequence_step) .none kV6 dc6 pm6 an6 cd6 ct6), f7, (PySem.W.fnOf "end_of_string" "Parser.end_of_string" (defArgs s_Parser_end_of_string) (defBody s_Parser_end_of_string) (defScope s_Parser_end_of_string) .none kV7 dc7 pm7 an7 cd7 ct7), f8, (PySem.W.fnOf "step" "Parser.step" (defArgs s_Parser_step) (defBody s_Parser_step) (defScope s_Parser_step) .none kV8 dc8 pm8 an8 cd8 ct8), f9, (PySem.W.fnOf "string_end_step" "Parser.string_end_step" (defArgs s_Parser_string_end_step) (defBody s_Parser_string_end_step) (defScope s_Parser_string_end_step) .none kV9 dc9 pm9 an9 cd9 ct9), f10, (PySem.W.fnOf "string_step" "Parser.string_step" (defArgs s_Parser_string_step) (defBody s_Parser_string_step) (defScope s_Parser_string_step) .none kV10 dc10 pm10 an10 cd10 ct10), f11, (PySem.W.fnOf "take" "Parser.take" (defArgs s_Parser_take) (defBody s_Parser_take) (defScope s_Parser_take) .none kV11 dc11 pm11 an11 cd11 ct11), f12, (PySem.W.fnOf "_law_cuts" "_law_cuts" (defArgs s__law_cuts) (defBody s__law_cuts) (defScope s__law_cuts) .none kV12 dc12 pm12 an12 cd12 ct12), f13, (PySem.W.fnOf "_law_row" "_law_row" (defArgs s__law_row) (defBody s__law_row) (defScope s__law_row) .none kV13 dc13 pm13 an13 cd13 ct13), f14, (PySem.W.fnOf "_law_digits" "_law_digits" (defArgs s__law_digits) (defBody s__law_digits) (defScope s__law_digits) .none kV14 dc14 pm14 an14 cd14 ct14), f15, (PySem.W.fnOf "_law_sequence" "_law_sequence" (defArgs s__law_sequence) (defBody s__law_sequence) (defScope s__law_sequence) .none kV15 dc15 pm15 an15 cd15 ct15), f16, (PySem.W.fnOf "_law_utf8" "_law_utf8" (defArgs s__law_utf8) (defBody s__law_utf8) (defScope s__law_utf8) .none kV16 dc16 pm16 an16 cd16 ct16), f17, (PySem.W.fnOf "_law_token" "_law_token" (defArgs s__law_token) (defBody s__law_token) (defScope s__law_token) .none kV17 dc17 pm17 an17 cd17 ct17), f18, (PySem.W.fnOf "_law_stream" "_law_stream" (defArgs s__law_stream) (defBody s__law_stream) (defScope s__law_stream) .none kV18 dc18 pm18 an18 cd18 ct18), fa, (PySem.W.fnOf "law" "law" (defArgs s_law) (defBody s_law) (defScope s_law) .none kV19 dc19 pm19 an19 cd19 ct19), CParser, q0, q1, q2⟩ :=
    ⟨fun_mk (st := s_Parser_init) l0 c0 k0,
     (fun_mk (st := s_Parser_init) l0 c0 k0).binds (ps := ["self"]) fun _ _ _ _ _ _ us hl => match us, hl with | [_], _ => rfl,
     ⟨mkParser, a0, i0, kcParser⟩,
     fun_mk (st := s_Parser_resting) l1 c1 k1,
     (fun_mk (st := s_Parser_resting) l1 c1 k1).binds (ps := ["self"]) fun _ _ _ _ _ _ us hl => match us, hl with | [_], _ => rfl,
     ⟨a1, i1, k1⟩,
     fun_mk (st := s_Parser_escape_step) l2 c2 k2,
     (fun_mk (st := s_Parser_escape_step) l2 c2 k2).binds (ps := ["self", "byte"]) fun _ _ _ _ _ _ us hl => match us, hl with | [_, _], _ => rfl,
     ⟨a2, i2, k2⟩,
     fun_mk (st := s_is_point) l3 c3 k3,
     (fun_mk (st := s_is_point) l3 c3 k3).binds (ps := ["number"]) fun _ _ _ _ _ _ us hl => match us, hl with | [_], _ => rfl,
     PySem.W.mg_of X G a3,
     fun_mk (st := s_Parser_further_step) l4 c4 k4,
     (fun_mk (st := s_Parser_further_step) l4 c4 k4).binds (ps := ["self", "byte"]) fun _ _ _ _ _ _ us hl => match us, hl with | [_, _], _ => rfl,
     ⟨a4, i4, k4⟩,
     fun_mk (st := s_Parser_ground_step) l5 c5 k5,
     (fun_mk (st := s_Parser_ground_step) l5 c5 k5).binds (ps := ["self", "byte"]) fun _ _ _ _ _ _ us hl => match us, hl with | [_, _], _ => rfl,
     ⟨a5, i5, k5⟩,
     fun_mk (st := s_Parser_sequence_step) l6 c6 k6,
     (fun_mk (st := s_Parser_sequence_step) l6 c6 k6).binds (ps := ["self", "byte"]) fun _ _ _ _ _ _ us hl => match us, hl with | [_, _], _ => rfl,
     ⟨a6, i6, k6⟩,
     fun_mk (st := s_Parser_end_of_string) l7 c7 k7,
     (fun_mk (st := s_Parser_end_of_string) l7 c7 k7).binds (ps := ["self"]) fun _ _ _ _ _ _ us hl => match us, hl with | [_], _ => rfl,
     ⟨a7, i7, k7⟩,
     fun_mk (st := s_Parser_step) l8 c8 k8,
     (fun_mk (st := s_Parser_step) l8 c8 k8).binds (ps := ["self", "byte"]) fun _ _ _ _ _ _ us hl => match us, hl with | [_, _], _ => rfl,
     ⟨a8, i8, k8⟩,
     fun_mk (st := s_Parser_string_end_step) l9 c9 k9,
     (fun_mk (st := s_Parser_string_end_step) l9 c9 k9).binds (ps := ["self", "byte"]) fun _ _ _ _ _ _ us hl => match us, hl with | [_, _], _ => rfl,
     ⟨a9, i9, k9⟩,
     fun_mk (st := s_Parser_string_step) l10 c10 k10,
     (fun_mk (st := s_Parser_string_step) l10 c10 k10).binds (ps := ["self", "byte"]) fun _ _ _ _ _ _ us hl => match us, hl with | [_, _], _ => rfl,
     ⟨a10, i10, k10⟩,
     fun_mk (st := s_Parser_take) l11 c11 k11,
     (fun_mk (st := s_Parser_take) l11 c11 k11).binds (ps := ["self", "data"]) fun _ _ _ _ _ _ us hl => match us, hl with | [_, _], _ => rfl,
     ⟨a11, i11, k11⟩,
     fun_mk (st := s__law_cuts) l12 c12 k12,
     (fun_mk (st := s__law_cuts) l12 c12 k12).binds (ps := ["_law_data", "_law_cells"]) fun _ _ _ _ _ _ us hl => match us, hl with | [_, _], _ => rfl,
     PySem.W.mg_of X G a12,
     fun_mk (st := s__law_row) l13 c13 k13,
     (fun_mk (st := s__law_row) l13 c13 k13).binds (ps := ["_law_cell_here", "_law_count", "_law_bound"]) fun _ _ _ _ _ _ us hl => match us, hl with | [_, _, _], _ => rfl,
     PySem.W.mg_of X G a13,
     fun_mk (st := s__law_digits) l14 c14 k14,
     (fun_mk (st := s__law_digits) l14 c14 k14).binds (ps := ["_law_number"]) fun _ _ _ _ _ _ us hl => match us, hl with | [_], _ => rfl,
     PySem.W.mg_of X G a14,
     fun_mk (st := s__law_sequence) l15 c15 k15,
     (fun_mk (st := s__law_sequence) l15 c15 k15).binds (ps := ["_law_x", "_law_finals", "_law_most"]) fun _ _ _ _ _ _ us hl => match us, hl with | [_, _, _], _ => rfl,
     PySem.W.mg_of X G a15,
     fun_mk (st := s__law_utf8) l16 c16 k16,
     (fun_mk (st := s__law_utf8) l16 c16 k16).binds (ps := ["_law_point"]) fun _ _ _ _ _ _ us hl => match us, hl with | [_], _ => rfl,
     PySem.W.mg_of X G a16,
     fun_mk (st := s__law_token) l17 c17 k17,
     (fun_mk (st := s__law_token) l17 c17 k17).binds (ps := ["_law_kind", "_law_x"]) fun _ _ _ _ _ _ us hl => match us, hl with | [_, _], _ => rfl,
     PySem.W.mg_of X G a17,
     fun_mk (st := s__law_stream) l18 c18 k18,
     (fun_mk (st := s__law_stream) l18 c18 k18).binds (ps := ["_law_cells", "_law_kinds"]) fun _ _ _ _ _ _ us hl => match us, hl with | [_, _], _ => rfl,
     PySem.W.mg_of X G a18,
     fun_mk (st := s_law) l19 c19 k19,
     (fun_mk (st := s_law) l19 c19 k19).binds (ps := ["_law_script"]) fun _ _ _ _ _ _ us hl => match us, hl with | [_], _ => rfl,
     PySem.W.mg_of X G a19,
     ⟨pgParser, hdParser, poParser, saParser⟩,
     PySem.W.mg_of X G aCParser,
     nParser_mode,
     nParser_missing,
     nParser_further,
     nParser_number,
     nParser_private,
     nParser_numbers,
     nParser_valid,
     nParser_is_first,
     nParser_is_title,
     nParser_string,
     PySem.W.mg_none_of X G z_abs,
     PySem.W.mg_none_of X G z_int,
     PySem.W.mg_none_of X G z_len,
     PySem.W.mg_none_of X G z_list,
     PySem.W.mg_none_of X G z_min,
     PySem.W.mg_none_of X G z_ord,
     PySem.W.mg_none_of X G z_range,
     PySem.W.mg_none_of X G z_sorted,
     PySem.W.mg_none_of X G z_str,
     PySem.W.mg_none_of X G z_tuple,
     ⟨_, PySem.W.mg_of X G v_GROUND⟩,
     ⟨_, PySem.W.mg_of X G v_UNKNOWN⟩,
     ⟨_, PySem.W.mg_of X G v_STRING⟩,
     ⟨_, PySem.W.mg_of X G v_STRING_END⟩,
     ⟨_, PySem.W.mg_of X G v_ESCAPE⟩,
     ⟨_, PySem.W.mg_of X G v_SEQUENCE⟩,
     ⟨_, PySem.W.mg_of X G v_INTERMEDIATE⟩,
     ⟨_, PySem.W.mg_of X G v_LARGEST_POINT⟩,
     ⟨_, PySem.W.mg_of X G v_MOST_NUMBERS⟩,
     ⟨_, PySem.W.mg_of X G v_LARGEST_NUMBER⟩,
     ⟨_, PySem.W.mg_of X G v_LONGEST_TITLE⟩,
     ⟨_, PySem.W.mg_of X G v_LONGEST_STRING⟩,
     PySem.W.mg_of X G gq_CANCEL,
     KW.ref (KW.tup q_0 (show (2 : Nat) ≤ sizeLine by decide) (.cons (.int _ _) (.cons (.int _ _) .nil))),
     PySem.W.mg_of X G gq_STRING_STARTS,
     KW.ref (KW.tup q_1 (show (5 : Nat) ≤ sizeLine by decide) (.cons (.int _ _) (.cons (.int _ _) (.cons (.int _ _) (.cons (.int _ _) (.cons (.int _ _) .nil)))))),
     PySem.W.mg_of X G gq_LEAST_OF_LENGTH,
     KW.ref (KW.tup q_2 (show (4 : Nat) ≤ sizeLine by decide) (.cons (.int _ _) (.cons (.int _ _) (.cons (.int _ _) (.cons (.int _ _) .nil)))))⟩
  exact ⟨_, fun s v => .of_eq rfl, fun base _ _ => law_ok (C := cx K _) rfl (ok_law T) law_true⟩
theorem walk {l : PySem.W.OpenLaw} {q : Program} {loose : List Str} {XP : (Str → Option Value) → Heap → Prop} {YP : World → Heap → Prop} {d : DefRec} {K : Params → PySem.W.Frag} (hn : l.most = some 63) (hdf : d.params.defaults = [])
    (hY : ∀ (w : World) (h : Heap), YP w h → (K w.params).In h) (F : ∀ (w : World) (mg : Str → Option Value) (fa : Addr) (h : Heap), (K w.params).In h → h.Ns mainGlobals mg → mg d.name = some (.ref fa) →
      ∃ fd : FuncData, (∀ (s : Shared) (u : Value), BindsTo s fd ⟨[u], []⟩ [("_law_script", u)]) ∧ ∀ base : Heap, (K w.params).In base → base.Ns mainGlobals mg → FnOk l.prog w (K w.params) mg base CX0 8 fa fd ["_law_script"] (spLaw (K w.params))) :
    PySem.W.WalkO q loose XP YP l.row.toRowW d [] (fun f vs => PySem.call f vs) :=
  L2.walk_of (n := 63) (k := 8) (x := "_law_script") (CX := fun _ => CX0) (sp := fun w => spLaw (K w.params)) hn (by decide) hdf ⟨rfl, by decide, by decide⟩ hY F (fun _ _ a ns hl _ hS => ⟨a, ns, rfl, hS, hl, fun _ => rfl⟩) fun _ _ _ _ _ z => z
end Kd
open PySem PySem.W PyProof.Rows in
set_option maxRecDepth 100000 in
set_option maxHeartbeats 0 in
theorem PySem.Challenge.cw_manypanes_k04_cut_bytes_give_the_same_ac_holds : PySem.Challenge.rw_manypanes_k04_cut_bytes_give_the_same_ac.Holds := by
  w_on; o_law; k_head; (case hw => w_witness2)
  k_fill
  refine Kd.walk (l := PySem.Challenge.rw_manypanes_k04_cut_bytes_give_the_same_ac) rfl rfl (fun w h Y => PySem.W.kIn_of Y) ?F
  case F =>
    intro w mg fa h KX G hmg
    refine' Kd.all_mk KX G hmg ?aCParser ?a0 ?i0 ?l0 ?c0 ?k0 ?a1 ?i1 ?l1 ?c1 ?k1 ?a2 ?i2 ?l2 ?c2 ?k2 ?a3 ?l3 ?c3 ?k3 ?a4 ?i4 ?l4 ?c4 ?k4 ?a5 ?i5 ?l5 ?c5 ?k5 ?a6 ?i6 ?l6 ?c6 ?k6 ?a7 ?i7 ?l7 ?c7 ?k7 ?a8 ?i8 ?l8 ?c8 ?k8 ?a9 ?i9 ?l9 ?c9 ?k9 ?a10 ?i10 ?l10 ?c10 ?k10 ?a11 ?i11 ?l11 ?c11 ?k11 ?a12 ?l12 ?c12 ?k12 ?a13 ?l13 ?c13 ?k13 ?a14 ?l14 ?c14 ?k14 ?a15 ?l15 ?c15 ?k15 ?a16 ?l16 ?c16 ?k16 ?a17 ?l17 ?c17 ?k17 ?a18 ?l18 ?c18 ?k18 ?a19 ?l19 ?c19 ?k19 ?pgParser ?hdParser ?poParser ?saParser ?mkParser ?kcParser ?nParser_mode ?nParser_missing ?nParser_further ?nParser_number ?nParser_private ?nParser_numbers ?nParser_valid ?nParser_is_first ?nParser_is_title ?nParser_string ?z_abs ?z_int ?z_len ?z_list ?z_min ?z_ord ?z_range ?z_sorted ?z_str ?z_tuple ?v_GROUND ?v_UNKNOWN ?v_STRING ?v_STRING_END ?v_ESCAPE ?v_SEQUENCE ?v_INTERMEDIATE ?v_LARGEST_POINT ?v_MOST_NUMBERS ?v_LARGEST_NUMBER ?v_LONGEST_TITLE ?v_LONGEST_STRING ?gq_CANCEL ?q_0 ?gq_STRING_STARTS ?q_1 ?gq_LEAST_OF_LENGTH ?q_2
    (case aCParser => k_is)
    (case a0 => k_is)
    (case i0 => k_is)
    (case l0 => k_is)
    (case c0 => k_is)
    (case k0 => k_is)
    (case a1 => k_is)
    (case i1 => k_is)
    (case l1 => k_is)
    (case c1 => k_is)
    (case k1 => k_is)
    (case a2 => k_is)
    (case i2 => k_is)
    (case l2 => k_is)
    (case c2 => k_is)
    (case k2 => k_is)
    (case a3 => k_is)
    (case l3 => k_is)
    (case c3 => k_is)
    (case k3 => k_is)
    (case a4 => k_is)
    (case i4 => k_is)
    (case l4 => k_is)
    (case c4 => k_is)
    (case k4 => k_is)
    (case a5 => k_is)
    (case i5 => k_is)
    (case l5 => k_is)
    (case c5 => k_is)
    (case k5 => k_is)
    (case a6 => k_is)
    (case i6 => k_is)
    (case l6 => k_is)
    (case c6 => k_is)
    (case k6 => k_is)
    (case a7 => k_is)
    (case i7 => k_is)
    (case l7 => k_is)
    (case c7 => k_is)
    (case k7 => k_is)
    (case a8 => k_is)
    (case i8 => k_is)
    (case l8 => k_is)
    (case c8 => k_is)
    (case k8 => k_is)
    (case a9 => k_is)
    (case i9 => k_is)
    (case l9 => k_is)
    (case c9 => k_is)
    (case k9 => k_is)
    (case a10 => k_is)
    (case i10 => k_is)
    (case l10 => k_is)
    (case c10 => k_is)
    (case k10 => k_is)
    (case a11 => k_is)
    (case i11 => k_is)
    (case l11 => k_is)
    (case c11 => k_is)
    (case k11 => k_is)
    (case a12 => k_is)
    (case l12 => k_is)
    (case c12 => k_is)
    (case k12 => k_is)
    (case a13 => k_is)
    (case l13 => k_is)
    (case c13 => k_is)
    (case k13 => k_is)
    (case a14 => k_is)
    (case l14 => k_is)
    (case c14 => k_is)
    (case k14 => k_is)
    (case a15 => k_is)
    (case l15 => k_is)
    (case c15 => k_is)
    (case k15 => k_is)
    (case a16 => k_is)
    (case l16 => k_is)
    (case c16 => k_is)
    (case k16 => k_is)
    (case a17 => k_is)
    (case l17 => k_is)
    (case c17 => k_is)
    (case k17 => k_is)
    (case a18 => k_is)
    (case l18 => k_is)
    (case c18 => k_is)
    (case k18 => k_is)
    (case a19 => k_is)
    (case l19 => k_is)
    (case c19 => k_is)
    (case k19 => k_is)
    (case pgParser => k_is)
    (case hdParser => k_is)
    (case poParser => k_is)
    (case saParser => k_is)
    (case mkParser => k_is)
    (case kcParser => k_is)
    (case nParser_mode => k_is)
    (case nParser_missing => k_is)
    (case nParser_further => k_is)
    (case nParser_number => k_is)
    (case nParser_private => k_is)
    (case nParser_numbers => k_is)
    (case nParser_valid => k_is)
    (case nParser_is_first => k_is)
    (case nParser_is_title => k_is)
    (case nParser_string => k_is)
    (case z_abs => k_is)
    (case z_int => k_is)
    (case z_len => k_is)
    (case z_list => k_is)
    (case z_min => k_is)
    (case z_ord => k_is)
    (case z_range => k_is)
    (case z_sorted => k_is)
    (case z_str => k_is)
    (case z_tuple => k_is)
    (case v_GROUND => k_is)
    (case v_UNKNOWN => k_is)
    (case v_STRING => k_is)
    (case v_STRING_END => k_is)
    (case v_ESCAPE => k_is)
    (case v_SEQUENCE => k_is)
    (case v_INTERMEDIATE => k_is)
    (case v_LARGEST_POINT => k_is)
    (case v_MOST_NUMBERS => k_is)
    (case v_LARGEST_NUMBER => k_is)
    (case v_LONGEST_TITLE => k_is)
    (case v_LONGEST_STRING => k_is)
    (case gq_CANCEL => k_is)
    (case q_0 => k_is)
    (case gq_STRING_STARTS => k_is)
    (case q_1 => k_is)
    (case gq_LEAST_OF_LENGTH => k_is)
    (case q_2 => k_is)

