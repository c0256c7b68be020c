import PyProof.Rows.All
import Wide.All
import OpenK.AllK
import Wide.FinOn
import HandS.ForMost
import HandS.ForExc
import HandS.IsInst
import HandS.Flow
import HandS.Style
import HandS.Deep
import HandS.Defaults
import HandS.CallSlots
import HandS.Zip
import PySem.Challenge.RW_manypanes_k16_pictures_and_their_differe
set_option Elab.async false
set_option linter.all false
set_option maxRecDepth 100000
set_option maxHeartbeats 4000000
/-! ML1: a functional reading of Python over a store of our own, core -/
namespace ML
open PySem L2

/-- a question that computation does not open -/
noncomputable def ck (p : Prop) : Bool := @decide p (Classical.propDecidable p)
@[simp] theorem ck_iff {p : Prop} : (ck p = true) = p := by
  unfold ck
  rw [@decide_eq_true_eq p (Classical.propDecidable p)]
/-- values: data as trees (tuples; lists that are never changed any more), places of the store -/
inductive W where
  | non | bl (b : Bool) | int (i : Int) | str (x : Str) | raw (v : V)
  | tup (ws : List W) | fl (ws : List W) | kl (ws : List W) | loc (l : Nat)
inductive O where
  | dead
  | lst (ws : List W)
  | ins (c : Nat) (fs : List (Option W))
  | dct (kvs : List (Key × W))
abbrev En := List (Option W)
abbrev Sto := List O
inductive R (α : Type) where
  | ok (a : α) (s : Sto)
  | ex (c : Nat) (s : Sto)
  | no
def R.bind {α β : Type} (r : R α) (f : α → Sto → R β) : R β := match r with
  | .ok a s => f a s
  | .ex c s => .ex c s
  | .no => .no
@[simp] theorem R.bind_ok {α β : Type} (a : α) (s : Sto) (f : α → Sto → R β) : (R.ok a s).bind f = f a s := rfl
@[simp] theorem R.bind_ex {α β : Type} (c : Nat) (s : Sto) (f : α → Sto → R β) : (R.ex c s).bind f = .ex c s := rfl
@[simp] theorem R.bind_no {α β : Type} (f : α → Sto → R β) : (R.no : R α).bind f = .no := rfl
@[simp] theorem R.bind_ite {α β : Type} (c : Prop) [Decidable c] (a b : R α) (f : α → Sto → R β) : (if c then a else b).bind f = if c then a.bind f else b.bind f := by split <;> rfl
inductive SR where
  | nx (e : En) (s : Sto) | rt (w : W) (s : Sto) | bk (e : En) (s : Sto) | ct (e : En) (s : Sto) | ex (c : Nat) (s : Sto) | no
/-- a bool's use -/
def W.cb {α : Type} (x : W) (f : Bool → R α) : R α := match x with
  | .bl k => f k
  | _ => .no
@[simp] theorem W.cb_bl {α : Type} (k : Bool) (f : Bool → R α) : (W.bl k).cb f = f k := rfl
/-- behind a statement -/
def SR.go (r : SR) (k : En → Sto → SR) : SR := match r with
  | .nx e s => k e s
  | .rt w s => .rt w s
  | .bk e s => .bk e s
  | .ct e s => .ct e s
  | .ex c s => .ex c s
  | .no => .no
@[simp] theorem SR.go_nx (e : En) (s : Sto) (k : En → Sto → SR) : (SR.nx e s).go k = k e s := rfl
@[simp] theorem SR.go_rt (e : W) (s : Sto) (k : En → Sto → SR) : (SR.rt e s).go k = .rt e s := rfl
@[simp] theorem SR.go_bk (e : En) (s : Sto) (k : En → Sto → SR) : (SR.bk e s).go k = .bk e s := rfl
@[simp] theorem SR.go_ct (e : En) (s : Sto) (k : En → Sto → SR) : (SR.ct e s).go k = .ct e s := rfl
@[simp] theorem SR.go_ex (e : Nat) (s : Sto) (k : En → Sto → SR) : (SR.ex e s).go k = .ex e s := rfl
@[simp] theorem SR.go_no (k : En → Sto → SR) : SR.no.go k = .no := rfl
@[simp] theorem SR.go_ite (c : Prop) [Decidable c] (a b : SR) (k : En → Sto → SR) : (if c then a else b).go k = if c then a.go k else b.go k := by split <;> rfl
/-- behind a loop's body -/
def SR.lp (r : SR) (k : En → Sto → SR) : SR := match r with
  | .nx e s => k e s
  | .ct e s => k e s
  | .bk e s => .nx e s
  | .rt w s => .rt w s
  | .ex c s => .ex c s
  | .no => .no
@[simp] theorem SR.lp_nx (e : En) (s : Sto) (k : En → Sto → SR) : (SR.nx e s).lp k = k e s := rfl
@[simp] theorem SR.lp_rt (e : W) (s : Sto) (k : En → Sto → SR) : (SR.rt e s).lp k = .rt e s := rfl
@[simp] theorem SR.lp_bk (e : En) (s : Sto) (k : En → Sto → SR) : (SR.bk e s).lp k = .nx e s := rfl
@[simp] theorem SR.lp_ct (e : En) (s : Sto) (k : En → Sto → SR) : (SR.ct e s).lp k = k e s := rfl
@[simp] theorem SR.lp_ex (e : Nat) (s : Sto) (k : En → Sto → SR) : (SR.ex e s).lp k = .ex e s := rfl
@[simp] theorem SR.lp_no (k : En → Sto → SR) : SR.no.lp k = .no := rfl
@[simp] theorem SR.lp_ite (c : Prop) [Decidable c] (a b : SR) (k : En → Sto → SR) : (if c then a else b).lp k = if c then a.lp k else b.lp k := by split <;> rfl
abbrev Ex := En → Sto → R W
abbrev Bx := En → Sto → R Bool
abbrev Ax := En → Sto → R (List W)
abbrev Sx := En → Sto → SR
/-- what the text has: the written part, the classes (place, names of the fields), the classes of errors -/
structure MC where
  K : PySem.W.Frag
  cls : List (Addr × List Str)
  exn : List Addr

/-- where the places stand; what else may be written, by one alone (a list that is being made) -/
structure Pl where
  pl : List Addr
  hd : List Addr
def Pl.add (ρ : Pl) (p : Addr) : Pl := ⟨ρ.pl ++ [p], ρ.hd⟩
def Pl.hide (ρ : Pl) (p : Addr) : Pl := ⟨ρ.pl, p :: ρ.hd⟩
/-- nobody writes at a any more -/
def NL (ρ : Pl) (st : Sto) (a : Addr) : Prop := (∀ l : Nat, ρ.pl[l]? = some a → st[l]? = some O.dead) ∧ a ∉ ρ.hd
/-- a list that never changes any more -/
def Fz (K : PySem.W.Frag) (H : Hp) (ρ : Pl) (st : Sto) (a : Addr) (vs : List V) : Prop :=
  (H a = some (.lst vs) ∧ NL ρ st a) ∨ (∃ o, H a = some (.frz o (.lst vs))) ∨ SqL K (fun _ => none) a vs
mutual
inductive Rep (K : PySem.W.Frag) (H : Hp) (ρ : Pl) (st : Sto) : V → W → Prop
  | non : Rep K H ρ st .non .non
  | bl (b : Bool) : Rep K H ρ st (.bl b) (.bl b)
  | int (i : Int) : Rep K H ρ st (.int i) (.int i)
  | str (x : Str) : Rep K H ρ st (.str x) (.str x)
  | raw (v : V) : Rep K H ρ st v (.raw v)
  | tup {a : Addr} {vs : List V} {ws : List W} : SqT K H a vs → RepL K H ρ st vs ws → Rep K H ρ st (.ref a) (.tup ws)
  | fl {a : Addr} {vs : List V} {ws : List W} : H a = some (.lst vs) → NL ρ st a → RepL K H ρ st vs ws → Rep K H ρ st (.ref a) (.fl ws)
  | kl {a : Addr} {vs : List V} {ws : List W} : Fz K H ρ st a vs → RepL K H ρ st vs ws → Rep K H ρ st (.ref a) (.kl ws)
  | loc {a : Addr} {l : Nat} : ρ.pl[l]? = some a → Rep K H ρ st (.ref a) (.loc l)
inductive RepL (K : PySem.W.Frag) (H : Hp) (ρ : Pl) (st : Sto) : List V → List W → Prop
  | nil : RepL K H ρ st [] []
  | cons {v : V} {vs : List V} {w : W} {ws : List W} : Rep K H ρ st v w → RepL K H ρ st vs ws → RepL K H ρ st (v :: vs) (w :: ws)
end

/-- how the state goes on -/
structure Evo (H : Hp) (ρ : Pl) (st : Sto) (H' : Hp) (ρ' : Pl) (st' : Sto) : Prop where
  pre : ∀ (l : Nat) (a : Addr), ρ.pl[l]? = some a → ρ'.pl[l]? = some a
  dd : ∀ l : Nat, st[l]? = some O.dead → st'[l]? = some O.dead
  keep : ∀ (a : Addr) (o : HO), H a = some o → (∀ l : Nat, ρ.pl[l]? = some a → st[l]? = some O.dead) → H' a = some o
  new : ∀ (l : Nat) (a : Addr), ρ'.pl[l]? = some a → ρ.pl[l]? = some a ∨ H a = none
  dom : ∀ a : Addr, H' a = none → H a = none
  newh : ∀ a ∈ ρ'.hd, a ∈ ρ.hd ∨ H a = none
  oldh : ∀ a ∈ ρ.hd, a ∈ ρ'.hd

theorem Evo.refl (H : Hp) (ρ : Pl) (st : Sto) : Evo H ρ st H ρ st :=
  ⟨fun _ _ h => h, fun _ h => h, fun _ _ h _ => h, fun _ _ h => .inl h, fun _ h => h, fun _ h => .inl h, fun _ h => h⟩
theorem Evo.trans {H H1 H2 : Hp} {ρ ρ1 ρ2 : Pl} {st st1 st2 : Sto} (a : Evo H ρ st H1 ρ1 st1) (b : Evo H1 ρ1 st1 H2 ρ2 st2) : Evo H ρ st H2 ρ2 st2 where
  pre := fun l x h => b.pre l x (a.pre l x h)
  dd := fun l h => b.dd l (a.dd l h)
  keep := fun x o h nl => b.keep x o (a.keep x o h nl) fun l q => by
    rcases a.new l x q with q | q
    · exact a.dd l (nl l q)
    · rw [h] at q; cases q
  new := fun l x q => by
    rcases b.new l x q with q | q
    · exact a.new l x q
    · exact .inr (a.dom x q)
  dom := fun x q => a.dom x (b.dom x q)
  newh := fun x q => by
    rcases b.newh x q with q | q
    · exact a.newh x q
    · exact .inr (a.dom x q)
  oldh := fun x q => b.oldh x (a.oldh x q)
theorem NL.evo {H H' : Hp} {ρ ρ' : Pl} {st st' : Sto} (E : Evo H ρ st H' ρ' st') {a : Addr} {o : HO} (h : H a = some o) (n : NL ρ st a) : NL ρ' st' a := by
  refine ⟨fun l q => ?_, fun q => ?_⟩
  · rcases E.new l a q with q | q
    · exact E.dd l (n.1 l q)
    · rw [h] at q; cases q
  · rcases E.newh a q with q | q
    · exact n.2 q
    · rw [h] at q; cases q

def isMutO : HO → Prop
  | .lst _ => True
  | .ins _ _ _ => True
  | .dK _ => True
  | _ => False
/-- places that live hold what can be changed -/
def Liv (H : Hp) (ρ : Pl) (st : Sto) : Prop := ∀ (l : Nat) (a : Addr), ρ.pl[l]? = some a → st[l]? = some O.dead ∨ ∃ o, H a = some o ∧ isMutO o
theorem Liv.not {H : Hp} {ρ : Pl} {st : Sto} (L : Liv H ρ st) {a : Addr} {o : HO} (h : H a = some o) (n : ¬ isMutO o) : ∀ l : Nat, ρ.pl[l]? = some a → st[l]? = some O.dead := fun l q => by
  rcases L l a q with z | ⟨u, e, m⟩
  · exact z
  · rw [h] at e; cases e; exact absurd m n
section
variable {K : PySem.W.Frag} {H H' : Hp} {ρ ρ' : Pl} {st st' : Sto}
theorem SqT.evo (E : Evo H ρ st H' ρ' st') (L : Liv H ρ st) {a : Addr} {vs : List V} (h : SqT K H a vs) : SqT K H' a vs := by
  rcases h with (h | ⟨o, h⟩) | h
  · exact .inl (.inl (E.keep a _ h (L.not h id)))
  · exact .inl (.inr ⟨o, E.keep a _ h (L.not h id)⟩)
  · exact .inr h
theorem Fz.evo (E : Evo H ρ st H' ρ' st') (L : Liv H ρ st) {a : Addr} {vs : List V} (h : Fz K H ρ st a vs) : Fz K H' ρ' st' a vs := by
  rcases h with ⟨h, n⟩ | ⟨o, h⟩ | h
  · exact .inl ⟨E.keep a _ h n.1, n.evo E h⟩
  · exact .inr (.inl ⟨o, E.keep a _ h (L.not h id)⟩)
  · exact .inr (.inr h)
theorem Fz.seq {a : Addr} {vs : List V} (h : Fz K H ρ st a vs) : SqL K H a vs := by
  rcases h with ⟨h, _⟩ | ⟨o, h⟩ | h
  · exact .inl (.inl h)
  · exact .inl (.inr ⟨o, h⟩)
  · rcases h with (h | ⟨o, h⟩) | h
    · cases h
    · cases h
    · exact .inr h
mutual
theorem Rep.evo (E : Evo H ρ st H' ρ' st') (L : Liv H ρ st) : ∀ {v : V} {w : W}, Rep K H ρ st v w → Rep K H' ρ' st' v w
  | _, _, .non => .non
  | _, _, .bl b => .bl b
  | _, _, .int i => .int i
  | _, _, .str x => .str x
  | _, _, .raw v => .raw v
  | _, _, .tup h r => .tup (SqT.evo E L h) (RepL.evo E L r)
  | _, _, .fl h n r => .fl (E.keep _ _ h n.1) (n.evo E h) (RepL.evo E L r)
  | _, _, .kl h r => .kl (Fz.evo E L h) (RepL.evo E L r)
  | _, _, .loc h => .loc (E.pre _ _ h)
theorem RepL.evo (E : Evo H ρ st H' ρ' st') (L : Liv H ρ st) : ∀ {vs : List V} {ws : List W}, RepL K H ρ st vs ws → RepL K H' ρ' st' vs ws
  | _, _, .nil => .nil
  | _, _, .cons h r => .cons (Rep.evo E L h) (RepL.evo E L r)
end
end
section
variable {K : PySem.W.Frag} {H : Hp} {ρ : Pl} {st : Sto}
theorem RepL.length : ∀ {vs : List V} {ws : List W}, RepL K H ρ st vs ws → vs.length = ws.length
  | _, _, .nil => rfl
  | _, _, .cons _ r => congrArg (· + 1) (RepL.length r)
theorem RepL.get : ∀ {vs : List V} {ws : List W} {i : Nat} {w : W}, RepL K H ρ st vs ws → ws[i]? = some w → ∃ v, vs[i]? = some v ∧ Rep K H ρ st v w
  | _, _, _, _, .nil, e => by simp at e
  | _, _, 0, _, .cons h _, e => by simp at e; subst e; exact ⟨_, rfl, h⟩
  | _, _, i + 1, w, .cons _ r, e => by
    obtain ⟨v, h1, h2⟩ := RepL.get (i := i) (w := w) r (by simpa using e)
    exact ⟨v, by simpa using h1, h2⟩
theorem RepL.getV : ∀ {vs : List V} {ws : List W} {i : Nat} {v : V}, RepL K H ρ st vs ws → vs[i]? = some v → ∃ w, ws[i]? = some w ∧ Rep K H ρ st v w
  | _, _, _, _, .nil, e => by simp at e
  | _, _, 0, _, .cons h _, e => by simp at e; subst e; exact ⟨_, rfl, h⟩
  | _, _, i + 1, w, .cons _ r, e => by
    obtain ⟨v, h1, h2⟩ := RepL.getV (i := i) (v := w) r (by simpa using e)
    exact ⟨v, by simpa using h1, h2⟩
theorem RepL.append : ∀ {vs us : List V} {ws xs : List W}, RepL K H ρ st vs ws → RepL K H ρ st us xs → RepL K H ρ st (vs ++ us) (ws ++ xs)
  | _, _, _, _, .nil, s => s
  | _, _, _, _, .cons h r, s => .cons h (RepL.append r s)
theorem RepL.take : ∀ {vs : List V} {ws : List W} (n : Nat), RepL K H ρ st vs ws → RepL K H ρ st (vs.take n) (ws.take n)
  | _, _, 0, _ => by simp; exact .nil
  | _, _, _ + 1, .nil => .nil
  | _, _, n + 1, .cons h r => .cons h (RepL.take n r)
theorem RepL.drop : ∀ {vs : List V} {ws : List W} (n : Nat), RepL K H ρ st vs ws → RepL K H ρ st (vs.drop n) (ws.drop n)
  | _, _, 0, r => r
  | _, _, _ + 1, .nil => .nil
  | _, _, n + 1, .cons _ r => RepL.drop n r
theorem RepL.set {v : V} {w : W} (h : Rep K H ρ st v w) : ∀ {vs : List V} {ws : List W} (i : Nat), RepL K H ρ st vs ws → RepL K H ρ st (vs.set i v) (ws.set i w)
  | _, _, _, .nil => .nil
  | _, _, 0, .cons _ r => .cons h r
  | _, _, i + 1, .cons q r => .cons q (RepL.set h i r)
theorem RepL.eraseIdx : ∀ {vs : List V} {ws : List W} (i : Nat), RepL K H ρ st vs ws → RepL K H ρ st (vs.eraseIdx i) (ws.eraseIdx i)
  | _, _, _, .nil => .nil
  | _, _, 0, .cons _ r => r
  | _, _, i + 1, .cons q r => .cons q (RepL.eraseIdx i r)
theorem RepL.dropLast {vs : List V} {ws : List W} (r : RepL K H ρ st vs ws) : RepL K H ρ st vs.dropLast ws.dropLast := by
  rw [List.dropLast_eq_take, List.dropLast_eq_take, r.length]; exact r.take _
theorem RepL.replicate {v : V} {w : W} (h : Rep K H ρ st v w) : ∀ n : Nat, RepL K H ρ st (List.replicate n v) (List.replicate n w)
  | 0 => .nil
  | n + 1 => .cons h (RepL.replicate h n)
theorem RepL.one {vs : List V} {w : W} (r : RepL K H ρ st vs [w]) : ∃ v, vs = [v] ∧ Rep K H ρ st v w := by
  cases r with | cons h r => cases r; exact ⟨_, rfl, h⟩
theorem RepL.two {vs : List V} {w x : W} (r : RepL K H ρ st vs [w, x]) : ∃ v u, vs = [v, u] ∧ Rep K H ρ st v w ∧ Rep K H ρ st u x := by
  cases r with | cons h r => obtain ⟨u, rfl, q⟩ := r.one; exact ⟨_, _, rfl, h, q⟩
theorem RepL.ints : ∀ {vs : List V} {ns : List Int}, RepL K H ρ st vs (ns.map W.int) → vs = ns.map V.int
  | _, [], h => by cases h; rfl
  | _, n :: ns, h => by
    cases h with
    | cons h r => cases h; rw [RepL.ints r]; rfl
theorem repL_ints (ns : List Int) : RepL K H ρ st (ns.map V.int) (ns.map W.int) := by
  induction ns with
  | nil => exact .nil
  | cons n ns ih => exact .cons (.int n) ih
theorem RepL.bls : ∀ {vs : List V} {ns : List Bool}, RepL K H ρ st vs (ns.map W.bl) → vs = ns.map V.bl
  | _, [], h => by cases h; rfl
  | _, n :: ns, h => by
    cases h with
    | cons h r => cases h; rw [RepL.bls r]; rfl
end

def RepF (C : MC) (H : Hp) (ρ : Pl) (st : Sto) (nm : List Str) (fvs : List (Str × V)) (fs : List (Option W)) : Prop :=
  fs.length = nm.length ∧ (∀ (i : Nat) (f : Str) (w : W), nm[i]? = some f → fs[i]? = some (some w) → ∃ v, fvs.lookup f = some v ∧ Rep C.K H ρ st v w) ∧
  (fvs.map (·.1)).Nodup ∧ ∀ f ∈ fvs.map (·.1), f ∈ nm
def RepK (K : PySem.W.Frag) (H : Hp) (ρ : Pl) (st : Sto) : List (Key × V) → List (Key × W) → Prop
  | [], [] => True
  | (k, v) :: kvs, (j, w) :: kws => k = j ∧ Rep K H ρ st v w ∧ RepK K H ρ st kvs kws
  | _, _ => False
def RepO (C : MC) (H : Hp) (ρ : Pl) (st : Sto) (a : Addr) : O → Prop
  | .dead => ∃ u, H a = some u
  | .lst ws => ∃ vs, H a = some (.lst vs) ∧ RepL C.K H ρ st vs ws
  | .ins c fs => ∃ Cd nm dx fvs, C.cls[c]? = some (Cd, nm) ∧ H a = some (.ins Cd dx fvs) ∧ RepF C H ρ st nm fvs fs
  | .dct kws => ∃ kvs, H a = some (.dK kvs) ∧ RepK C.K H ρ st kvs kws
structure RelS (C : MC) (H : Hp) (ρ : Pl) (st : Sto) : Prop where
  len : ρ.pl.length = st.length
  inj : ∀ (l m : Nat) (a : Addr), ρ.pl[l]? = some a → ρ.pl[m]? = some a → l = m
  obj : ∀ (l : Nat) (a : Addr) (o : O), ρ.pl[l]? = some a → st[l]? = some o → RepO C H ρ st a o
  hid : ∀ a ∈ ρ.hd, (∃ o, H a = some o ∧ isMutO o) ∧ ∀ l : Nat, ρ.pl[l]? ≠ some a
section
variable {C : MC} {H H' : Hp} {ρ ρ' : Pl} {st st' : Sto}
theorem RelS.at (S : RelS C H ρ st) {l : Nat} {a : Addr} (h : ρ.pl[l]? = some a) : ∃ o, st[l]? = some o := by
  have q := (List.getElem?_eq_some_iff.mp h).1
  rw [S.len] at q
  exact ⟨st[l], by simp [q]⟩
theorem RelS.addr (S : RelS C H ρ st) {l : Nat} {o : O} (h : st[l]? = some o) : ∃ a, ρ.pl[l]? = some a ∧ RepO C H ρ st a o := by
  have q := (List.getElem?_eq_some_iff.mp h).1
  rw [← S.len] at q
  exact ⟨ρ.pl[l], by simp [q], S.obj l _ o (by simp [q]) h⟩
theorem RelS.liv (S : RelS C H ρ st) : Liv H ρ st := fun l a h => by
  obtain ⟨o, e⟩ := S.at h
  have q := S.obj l a o h e
  cases o with
  | dead => exact .inl e
  | lst ws => obtain ⟨vs, e, _⟩ := q; exact .inr ⟨_, e, trivial⟩
  | ins c fs => obtain ⟨_, _, _, _, _, e, _⟩ := q; exact .inr ⟨_, e, trivial⟩
  | dct kws => obtain ⟨vs, e, _⟩ := q; exact .inr ⟨_, e, trivial⟩
theorem RelS.has (S : RelS C H ρ st) {l : Nat} {a : Addr} (h : ρ.pl[l]? = some a) : ∃ u, H a = some u := by
  obtain ⟨o, e⟩ := S.at h
  have q := S.obj l a o h e
  cases o with
  | dead => exact q
  | lst ws => obtain ⟨vs, e, _⟩ := q; exact ⟨_, e⟩
  | ins c fs => obtain ⟨_, _, _, _, _, e, _⟩ := q; exact ⟨_, e⟩
  | dct kws => obtain ⟨vs, e, _⟩ := q; exact ⟨_, e⟩
theorem RepF.evo {nm : List Str} {fvs : List (Str × V)} {fs : List (Option W)} (E : Evo H ρ st H' ρ' st') (L : Liv H ρ st) (h : RepF C H ρ st nm fvs fs) : RepF C H' ρ' st' nm fvs fs :=
  ⟨h.1, fun i f w a b => let ⟨v, e, r⟩ := h.2.1 i f w a b; ⟨v, e, r.evo E L⟩, h.2.2⟩
theorem RepK.evo {K : PySem.W.Frag} (E : Evo H ρ st H' ρ' st') (L : Liv H ρ st) : ∀ {kvs : List (Key × V)} {kws : List (Key × W)}, RepK K H ρ st kvs kws → RepK K H' ρ' st' kvs kws
  | [], [], _ => trivial
  | (k, v) :: kvs, (j, w) :: kws, h => ⟨h.1, h.2.1.evo E L, RepK.evo E L h.2.2⟩
  | [], _ :: _, h => h.elim
  | _ :: _, [], h => h.elim
theorem RepO.evo {a : Addr} {o : O} (E : Evo H ρ st H' ρ' st') (L : Liv H ρ st) (e : H' a = H a) (h : RepO C H ρ st a o) : RepO C H' ρ' st' a o := by
  cases o with
  | dead => obtain ⟨u, q⟩ := h; exact ⟨u, e.trans q⟩
  | lst ws => obtain ⟨vs, q, r⟩ := h; exact ⟨vs, e.trans q, r.evo E L⟩
  | ins c fs => obtain ⟨Cd, nm, dx, fvs, q1, q2, r⟩ := h; exact ⟨Cd, nm, dx, fvs, q1, e.trans q2, r.evo E L⟩
  | dct kws => obtain ⟨kvs, q, r⟩ := h; exact ⟨kvs, e.trans q, r.evo E L⟩
/-- a new object that has no place of its own -/
theorem Evo.laid {p : Addr} {o : HO} (hp : H p = none) : Evo H ρ st (upd H p o) ρ st :=
  ⟨fun _ _ h => h, fun _ h => h, fun a u h _ => by rw [upd_ne (ne_of_none h hp)]; exact h, fun _ _ h => .inl h, fun a h => by
    by_cases e : a = p
    · rw [e]; exact hp
    · rw [upd_ne e] at h; exact h, fun _ h => .inl h, fun _ h => h⟩
theorem RelS.fresh (S : RelS C H ρ st) {p : Addr} (h : H p = none) : (∀ l : Nat, ρ.pl[l]? ≠ Option.some p) ∧ p ∉ ρ.hd := by
  refine ⟨fun l q => ?_, fun q => ?_⟩
  · obtain ⟨u, e⟩ := S.has q
    rw [h] at e; cases e
  · obtain ⟨⟨o, e, _⟩, _⟩ := S.hid p q
    rw [h] at e; cases e
theorem RelS.nl (S : RelS C H ρ st) {p : Addr} (h : H p = none) : NL ρ st p := ⟨fun l q => absurd q ((S.fresh h).1 l), (S.fresh h).2⟩
theorem RelS.laid (S : RelS C H ρ st) {p : Addr} {o : HO} (hp : H p = none) : RelS C (upd H p o) ρ st :=
  ⟨S.len, S.inj, fun l a u h e => (S.obj l a u h e).evo (Evo.laid hp) S.liv (upd_ne fun z => (S.fresh hp).1 l (z ▸ h)), fun a h => by
    obtain ⟨⟨o, e, m⟩, q⟩ := S.hid a h
    exact ⟨⟨o, by rw [upd_ne (ne_of_none e hp)]; exact e, m⟩, q⟩⟩
theorem add_at {ρ : Pl} {p : Addr} {l : Nat} {a : Addr} (h : (ρ.add p).pl[l]? = Option.some a) : ρ.pl[l]? = Option.some a ∨ (l = ρ.pl.length ∧ a = p) := by
  have h : (ρ.pl ++ [p])[l]? = Option.some a := h
  rw [List.getElem?_append] at h
  split at h
  · exact .inl h
  · cases q : l - ρ.pl.length with
    | zero => rw [q] at h; simp at h; exact .inr ⟨by omega, h.symm⟩
    | succ k => rw [q] at h; simp at h
theorem add_old {ρ : Pl} {p : Addr} {l : Nat} {a : Addr} (h : ρ.pl[l]? = Option.some a) : (ρ.add p).pl[l]? = Option.some a := by
  show (ρ.pl ++ [p])[l]? = Option.some a
  rw [List.getElem?_append_left (List.getElem?_eq_some_iff.mp h).1]; exact h
theorem add_new {ρ : Pl} {p : Addr} : (ρ.add p).pl[ρ.pl.length]? = Option.some p := by
  show (ρ.pl ++ [p])[ρ.pl.length]? = Option.some p
  simp
/-- a new object with a place -/
theorem Evo.push {p : Addr} {o : HO} {u : O} (hp : H p = none) : Evo H ρ st (upd H p o) (ρ.add p) (st ++ [u]) :=
  ⟨fun l a h => add_old h, fun l h => by rw [List.getElem?_append_left (List.getElem?_eq_some_iff.mp h).1]; exact h,
   fun a u h _ => by rw [upd_ne (ne_of_none h hp)]; exact h,
   fun l a h => by
    rcases add_at h with h | ⟨_, h⟩
    · exact .inl h
    · rw [h]; exact .inr hp,
   fun a h => by
    by_cases e : a = p
    · rw [e]; exact hp
    · rw [upd_ne e] at h; exact h, fun _ h => .inl h, fun _ h => h⟩
theorem RelS.push (S : RelS C H ρ st) {p : Addr} {o : HO} {u : O} (hp : H p = none) (hu : RepO C (upd H p o) (ρ.add p) (st ++ [u]) p u) : RelS C (upd H p o) (ρ.add p) (st ++ [u]) := by
  refine ⟨by show (ρ.pl ++ [p]).length = _; simp [S.len], fun l m a h1 h2 => ?_, fun l a x h e => ?_, fun a h => ?_⟩
  · rcases add_at h1 with h1 | ⟨h1, e1⟩
    · rcases add_at h2 with h2 | ⟨h2, e2⟩
      · exact S.inj l m a h1 h2
      · rw [e2] at h1; exact absurd h1 ((S.fresh hp).1 l)
    · rcases add_at h2 with h2 | ⟨h2, e2⟩
      · rw [e1] at h2; exact absurd h2 ((S.fresh hp).1 m)
      · rw [h1, h2]
  · rcases add_at h with h | ⟨h, ea⟩
    · rw [List.getElem?_append_left (by rw [← S.len]; exact (List.getElem?_eq_some_iff.mp h).1)] at e
      exact (S.obj l a x h e).evo (Evo.push hp) S.liv (upd_ne fun z => (S.fresh hp).1 l (z ▸ h))
    · rw [h, S.len, List.getElem?_append_right (Nat.le_refl _)] at e
      simp at e
      rw [ea, ← e]
      exact hu
  · obtain ⟨⟨o, e, m⟩, q⟩ := S.hid a h
    refine ⟨⟨o, by rw [upd_ne (ne_of_none e hp)]; exact e, m⟩, fun l z => ?_⟩
    rcases add_at z with z | ⟨_, z⟩
    · exact q l z
    · rw [z, hp] at e; cases e
/-- a living place is written -/
theorem Evo.write {l : Nat} {a : Addr} {o : HO} {u x : O} (h : ρ.pl[l]? = Option.some a) (e : st[l]? = Option.some x) (nx : x ≠ .dead) : Evo H ρ st (upd H a o) ρ (st.set l u) :=
  ⟨fun _ _ h => h, fun m q => by
    by_cases z : l = m
    · rw [← z, e] at q; cases q; exact absurd rfl nx
    · rw [List.getElem?_set_ne z]; exact q,
   fun b v q nl => by
    by_cases z : b = a
    · have := nl l (z ▸ h); rw [e] at this; cases this; exact absurd rfl nx
    · rw [upd_ne z]; exact q, fun _ _ h => .inl h, fun b q => by
    by_cases z : b = a
    · rw [z, upd_same] at q; cases q
    · rw [upd_ne z] at q; exact q, fun _ h => .inl h, fun _ h => h⟩
theorem RelS.write (S : RelS C H ρ st) {l : Nat} {a : Addr} {o : HO} {u x : O} (h : ρ.pl[l]? = Option.some a) (e : st[l]? = Option.some x) (nx : x ≠ .dead) (hu : RepO C (upd H a o) ρ (st.set l u) a u) : RelS C (upd H a o) ρ (st.set l u) := by
  refine ⟨by simp [S.len], S.inj, fun m b y q r => ?_, fun b hb => ?_⟩
  · by_cases z : l = m
    · subst z
      rw [List.getElem?_set_self (List.getElem?_eq_some_iff.mp e).1] at r
      cases r
      rw [h] at q; cases q
      exact hu
    · rw [List.getElem?_set_ne z] at r
      exact (S.obj m b y q r).evo (Evo.write h e nx) S.liv (upd_ne fun w => z (S.inj l m a h (w ▸ q)))
  · obtain ⟨⟨o, e, m⟩, q⟩ := S.hid b hb
    exact ⟨⟨o, by rw [upd_ne (fun z => q l (by rw [z]; exact h))]; exact e, m⟩, q⟩
/-- a place is given up -/
theorem Evo.kill {l : Nat} : Evo H ρ st H ρ (st.set l .dead) :=
  ⟨fun _ _ h => h, fun m q => by
    by_cases z : l = m
    · rw [← z, List.getElem?_set_self (by rw [z]; exact (List.getElem?_eq_some_iff.mp q).1)]
    · rw [List.getElem?_set_ne z]; exact q, fun _ _ h _ => h, fun _ _ h => .inl h, fun _ h => h, fun _ h => .inl h, fun _ h => h⟩
theorem RelS.kill (S : RelS C H ρ st) {l : Nat} : RelS C H ρ (st.set l .dead) := by
  refine ⟨by simp [S.len], S.inj, fun m b y q r => ?_, S.hid⟩
  by_cases z : l = m
  · subst z
    rw [List.getElem?_set_self (by rw [← S.len]; exact (List.getElem?_eq_some_iff.mp q).1)] at r
    cases r
    exact S.has q
  · rw [List.getElem?_set_ne z] at r
    exact (S.obj m b y q r).evo Evo.kill S.liv rfl
/-- a new object that one alone writes -/
theorem Evo.hide {p : Addr} {o : HO} (hp : H p = none) : Evo H ρ st (upd H p o) (ρ.hide p) st :=
  ⟨fun _ _ h => h, fun _ h => h, fun a u h _ => by rw [upd_ne (ne_of_none h hp)]; exact h, fun _ _ h => .inl h, fun a h => by
    by_cases e : a = p
    · rw [e]; exact hp
    · rw [upd_ne e] at h; exact h, fun a h => by
    rcases List.mem_cons.mp h with h | h
    · rw [h]; exact .inr hp
    · exact .inl h, fun a h => List.mem_cons_of_mem _ h⟩
theorem RelS.hide (S : RelS C H ρ st) {p : Addr} {o : HO} (hp : H p = none) (ho : isMutO o) : RelS C (upd H p o) (ρ.hide p) st :=
  ⟨S.len, S.inj, fun l a u h e => (S.obj l a u h e).evo (Evo.hide hp) S.liv (upd_ne fun z => (S.fresh hp).1 l (z ▸ h)), fun a h => by
    rcases List.mem_cons.mp h with h | h
    · rw [h]; exact ⟨⟨o, upd_same, ho⟩, (S.fresh hp).1⟩
    · obtain ⟨⟨o, e, m⟩, q⟩ := S.hid a h
      exact ⟨⟨o, by rw [upd_ne (ne_of_none e hp)]; exact e, m⟩, q⟩⟩
end
/-! what is hidden is written: nothing else leans on it -/
section
variable {K : PySem.W.Frag} {C : MC} {H : Hp} {ρ : Pl} {st : Sto} {D : Addr} {o : HO}
mutual
theorem Rep.hidw (hD : D ∈ ρ.hd) (hm : ∃ u, H D = some u ∧ isMutO u) : ∀ {v : V} {w : W}, Rep K H ρ st v w → Rep K (upd H D o) ρ st v w
  | _, _, .non => .non
  | _, _, .bl b => .bl b
  | _, _, .int i => .int i
  | _, _, .str x => .str x
  | _, _, .raw v => .raw v
  | _, _, .tup h r => .tup (by
      obtain ⟨u, hu, mu⟩ := hm
      rcases h with (h | ⟨x, h⟩) | h
      · exact .inl (.inl (by rw [upd_ne (ne_of h hu (fun z => by rw [← z] at mu; exact mu))]; exact h))
      · exact .inl (.inr ⟨x, by rw [upd_ne (ne_of h hu (fun z => by rw [← z] at mu; exact mu))]; exact h⟩)
      · exact .inr h) (RepL.hidw hD hm r)
  | _, _, .fl h n r => .fl (by rw [upd_ne (fun z => n.2 (by rw [z]; exact hD))]; exact h) n (RepL.hidw hD hm r)
  | _, _, .kl h r => .kl (by
      obtain ⟨u, hu, mu⟩ := hm
      rcases h with ⟨h, n⟩ | ⟨x, h⟩ | h
      · exact .inl ⟨by rw [upd_ne (fun z => n.2 (by rw [z]; exact hD))]; exact h, n⟩
      · exact .inr (.inl ⟨x, by rw [upd_ne (ne_of h hu (fun z => by rw [← z] at mu; exact mu))]; exact h⟩)
      · exact .inr (.inr h)) (RepL.hidw hD hm r)
  | _, _, .loc h => .loc h
theorem RepL.hidw (hD : D ∈ ρ.hd) (hm : ∃ u, H D = some u ∧ isMutO u) : ∀ {vs : List V} {ws : List W}, RepL K H ρ st vs ws → RepL K (upd H D o) ρ st vs ws
  | _, _, .nil => .nil
  | _, _, .cons h r => .cons (Rep.hidw hD hm h) (RepL.hidw hD hm r)
end
theorem RepK.hidw (hD : D ∈ ρ.hd) (hm : ∃ u, H D = some u ∧ isMutO u) : ∀ {kvs : List (Key × V)} {kws : List (Key × W)}, RepK K H ρ st kvs kws → RepK K (upd H D o) ρ st kvs kws
  | [], [], _ => trivial
  | (k, v) :: kvs, (j, w) :: kws, h => ⟨h.1, h.2.1.hidw hD hm, RepK.hidw hD hm h.2.2⟩
  | [], _ :: _, h => h.elim
  | _ :: _, [], h => h.elim
/-- what was hidden is hidden no more -/
def Pl.show (ρ : Pl) (D : Addr) : Pl := ⟨ρ.pl, ρ.hd.filter fun a => decide (a ≠ D)⟩
theorem show_sub {a : Addr} (h : a ∈ (ρ.show D).hd) : a ∈ ρ.hd := (List.mem_filter.mp h).1
theorem show_not : D ∉ (ρ.show D).hd := fun h => by simpa using (List.mem_filter.mp h).2
theorem show_mem {a : Addr} (h : a ∈ ρ.hd) (ne : a ≠ D) : a ∈ (ρ.show D).hd := List.mem_filter.mpr ⟨h, by simpa using ne⟩
theorem NL.shown {a : Addr} (n : NL ρ st a) : NL (ρ.show D) st a := ⟨n.1, fun h => n.2 (show_sub h)⟩
mutual
theorem Rep.shown : ∀ {v : V} {w : W}, Rep K H ρ st v w → Rep K H (ρ.show D) st v w
  | _, _, .non => .non
  | _, _, .bl b => .bl b
  | _, _, .int i => .int i
  | _, _, .str x => .str x
  | _, _, .raw v => .raw v
  | _, _, .tup h r => .tup h (RepL.shown r)
  | _, _, .fl h n r => .fl h n.shown (RepL.shown r)
  | _, _, .kl h r => .kl (by
      rcases h with ⟨h, n⟩ | h
      · exact .inl ⟨h, n.shown⟩
      · exact .inr h) (RepL.shown r)
  | _, _, .loc h => .loc h
theorem RepL.shown : ∀ {vs : List V} {ws : List W}, RepL K H ρ st vs ws → RepL K H (ρ.show D) st vs ws
  | _, _, .nil => .nil
  | _, _, .cons h r => .cons (Rep.shown h) (RepL.shown r)
end
theorem RepK.shown : ∀ {kvs : List (Key × V)} {kws : List (Key × W)}, RepK K H ρ st kvs kws → RepK K H (ρ.show D) st kvs kws
  | [], [], _ => trivial
  | (k, v) :: kvs, (j, w) :: kws, h => ⟨h.1, h.2.1.shown, RepK.shown h.2.2⟩
  | [], _ :: _, h => h.elim
  | _ :: _, [], h => h.elim
theorem RelS.shown (S : RelS C H ρ st) : RelS C H (ρ.show D) st := by
  refine ⟨S.len, S.inj, fun l a u h e => ?_, fun a h => S.hid a (show_sub h)⟩
  have q := S.obj l a u h e
  cases u with
  | dead => exact q
  | lst ws => obtain ⟨vs, q, r⟩ := q; exact ⟨vs, q, r.shown⟩
  | ins c fs => obtain ⟨Cd, nm, dx, fvs, q1, q2, r1, r2, r3⟩ := q; exact ⟨Cd, nm, dx, fvs, q1, q2, r1, fun i f w a b => let ⟨v, e, r⟩ := r2 i f w a b; ⟨v, e, r.shown⟩, r3⟩
  | dct kws => obtain ⟨kvs, q, r⟩ := q; exact ⟨kvs, q, RepK.shown r⟩
theorem RelS.hidw (S : RelS C H ρ st) (hD : D ∈ ρ.hd) (ho : isMutO o) : RelS C (upd H D o) ρ st := by
  obtain ⟨hm, nD⟩ := S.hid D hD
  refine ⟨S.len, S.inj, fun l a u h e => ?_, fun a h => ?_⟩
  · have ne : a ≠ D := fun z => nD l (by rw [← z]; exact h)
    have q := S.obj l a u h e
    cases u with
    | dead => obtain ⟨u, q⟩ := q; exact ⟨u, (upd_ne ne).trans q⟩
    | lst ws => obtain ⟨vs, q, r⟩ := q; exact ⟨vs, (upd_ne ne).trans q, r.hidw hD hm⟩
    | ins c fs => obtain ⟨Cd, nm, dx, fvs, q1, q2, r1, r2, r3⟩ := q; exact ⟨Cd, nm, dx, fvs, q1, (upd_ne ne).trans q2, r1, fun i f w a b => let ⟨v, e, r⟩ := r2 i f w a b; ⟨v, e, r.hidw hD hm⟩, r3⟩
    | dct kws => obtain ⟨kvs, q, r⟩ := q; exact ⟨kvs, (upd_ne ne).trans q, RepK.hidw hD hm r⟩
  · by_cases z : a = D
    · rw [z]; exact ⟨⟨o, upd_same, ho⟩, nD⟩
    · obtain ⟨⟨u, e, m⟩, q⟩ := S.hid a h
      exact ⟨⟨u, (upd_ne z).trans e, m⟩, q⟩
end

/-- the slots -/
def RelE (K : PySem.W.Frag) (H : Hp) (ρ : Pl) (st : Sto) (σ : St) (env : En) : Prop :=
  env.length = σ.length ∧ ∀ (i : Nat) (w : W), env[i]? = some (some w) → ∃ v, σ[i]? = some (some v) ∧ Rep K H ρ st v w
section
variable {K : PySem.W.Frag} {H H' : Hp} {ρ ρ' : Pl} {st st' : Sto} {σ : St} {env : En}
theorem RelE.evo (E : Evo H ρ st H' ρ' st') (L : Liv H ρ st) (h : RelE K H ρ st σ env) : RelE K H' ρ' st' σ env :=
  ⟨h.1, fun i w e => let ⟨v, q, r⟩ := h.2 i w e; ⟨v, q, r.evo E L⟩⟩
theorem RelE.set (h : RelE K H ρ st σ env) {v : V} {w : W} (r : Rep K H ρ st v w) (i : Nat) : RelE K H ρ st (σ.set i (some v)) (env.set i (some w)) := by
  refine ⟨by simp [h.1], fun j x e => ?_⟩
  by_cases z : i = j
  · subst z
    have hi : i < env.length := by
      have := (List.getElem?_eq_some_iff.mp e).1
      simpa using this
    rw [List.getElem?_set_self hi] at e
    cases e
    exact ⟨v, by rw [List.getElem?_set_self (by rw [← h.1]; exact hi)], r⟩
  · rw [List.getElem?_set_ne z] at e
    obtain ⟨v, q, r⟩ := h.2 j x e
    exact ⟨v, by rw [List.getElem?_set_ne z]; exact q, r⟩
end

/-- what a result is worth -/
def Post {α β : Type} (rel : Hp → Pl → Sto → β → α → Prop) (C : MC) (E : XK) (H : Hp) (ρ : Pl) (st : Sto) (r : R α) (Q : β → Hp → Prop) : Prop :=
  match r with
  | .ok w st' => ∀ H' ρ' v, Evo H ρ st H' ρ' st' → RelS C H' ρ' st' → rel H' ρ' st' v w → Q v H'
  | .ex c st' => ∀ H' ρ' a, Evo H ρ st H' ρ' st' → RelS C H' ρ' st' → C.exn[c]? = some a → E (.ref a) none H'
  | .no => False
section
variable {α β γ δ : Type} {rel : Hp → Pl → Sto → β → α → Prop} {rel' : Hp → Pl → Sto → δ → γ → Prop} {C : MC} {E : XK} {H H1 : Hp} {ρ ρ1 : Pl} {st st1 : Sto} {r : R α} {Q : β → Hp → Prop}
theorem Post.shift (h : Post rel C E H ρ st r Q) (e : Evo H ρ st H1 ρ1 st1) : Post rel C E H1 ρ1 st1 r Q := by
  cases r with
  | ok w st' => exact fun H' ρ' v e' s q => h H' ρ' v (e.trans e') s q
  | ex c st' => exact fun H' ρ' a e' s q => h H' ρ' a (e.trans e') s q
  | no => exact h
theorem Post.bind {f : α → Sto → R γ} {Q' : δ → Hp → Prop} (h : Post rel' C E H ρ st (r.bind f) Q')
    (k : ∀ (w : α) (st1 : Sto) (H1 : Hp) (ρ1 : Pl) (v : β), r = .ok w st1 → Evo H ρ st H1 ρ1 st1 → RelS C H1 ρ1 st1 → rel H1 ρ1 st1 v w → Post rel' C E H1 ρ1 st1 (f w st1) Q' → Q v H1) : Post rel C E H ρ st r Q := by
  cases r with
  | ok w st' => exact fun H' ρ' v e s q => k w st' H' ρ' v rfl e s q (Post.shift (h : Post rel' C E H ρ st (f w st') Q') e)
  | ex c st' => exact h
  | no => exact h
theorem Post.imp {Q' : β → Hp → Prop} (h : Post rel C E H ρ st r Q) (k : ∀ v H, Q v H → Q' v H) : Post rel C E H ρ st r Q' := by
  cases r with
  | ok w st' => exact fun H' ρ' v e s q => k _ _ (h H' ρ' v e s q)
  | ex c st' => exact h
  | no => exact h
end
abbrev relW (C : MC) : Hp → Pl → Sto → V → W → Prop := fun H ρ st v w => Rep C.K H ρ st v w
abbrev relWs (C : MC) : Hp → Pl → Sto → List V → List W → Prop := fun H ρ st v w => RepL C.K H ρ st v w
abbrev relB : Hp → Pl → Sto → Bool → Bool → Prop := fun _ _ _ v w => v = w
abbrev relI : Hp → Pl → Sto → Option Int → Option Int → Prop := fun _ _ _ v w => v = w

def tM (C : MC) (E : XK) (m : Ex) : TE := fun σ H Q => ∃ ρ st env, RelE C.K H ρ st σ env ∧ RelS C H ρ st ∧ Post (relW C) C E H ρ st (m env st) Q
def tMB (C : MC) (E : XK) (m : Bx) : TT := fun σ H Q => ∃ ρ st env, RelE C.K H ρ st σ env ∧ RelS C H ρ st ∧ Post relB C E H ρ st (m env st) Q
def tMA (C : MC) (E : XK) (m : Ax) : TA := fun σ H Q => ∃ ρ st env, RelE C.K H ρ st σ env ∧ RelS C H ρ st ∧ Post (relWs C) C E H ρ st (m env st) Q
def PostS (C : MC) (E : XK) (H : Hp) (ρ : Pl) (st : Sto) (r : SR) (D : Ends) : Prop :=
  match r with
  | .nx env' st' => ∀ H' ρ' σ', Evo H ρ st H' ρ' st' → RelS C H' ρ' st' → RelE C.K H' ρ' st' σ' env' → D.nx σ' H'
  | .bk env' st' => ∀ H' ρ' σ', Evo H ρ st H' ρ' st' → RelS C H' ρ' st' → RelE C.K H' ρ' st' σ' env' → D.bk σ' H'
  | .ct env' st' => ∀ H' ρ' σ', Evo H ρ st H' ρ' st' → RelS C H' ρ' st' → RelE C.K H' ρ' st' σ' env' → D.ct σ' H'
  | .rt w st' => ∀ H' ρ' v, Evo H ρ st H' ρ' st' → RelS C H' ρ' st' → Rep C.K H' ρ' st' v w → D.rt v H'
  | .ex c st' => ∀ H' ρ' a, Evo H ρ st H' ρ' st' → RelS C H' ρ' st' → C.exn[c]? = some a → E (.ref a) none H'
  | .no => False
def tMS (C : MC) (E : XK) (m : Sx) : TS := fun D σ H => ∃ ρ st env, RelE C.K H ρ st σ env ∧ RelS C H ρ st ∧ PostS C E H ρ st (m env st) D
theorem PostS.shift {C : MC} {E : XK} {H H1 : Hp} {ρ ρ1 : Pl} {st st1 : Sto} {r : SR} {D : Ends} (h : PostS C E H ρ st r D) (e : Evo H ρ st H1 ρ1 st1) : PostS C E H1 ρ1 st1 r D := by
  cases r with
  | nx w st' => exact fun H' ρ' v e' s q => h H' ρ' v (e.trans e') s q
  | bk w st' => exact fun H' ρ' v e' s q => h H' ρ' v (e.trans e') s q
  | ct w st' => exact fun H' ρ' v e' s q => h H' ρ' v (e.trans e') s q
  | rt w st' => exact fun H' ρ' v e' s q => h H' ρ' v (e.trans e') s q
  | ex c st' => exact fun H' ρ' a e' s q => h H' ρ' a (e.trans e') s q
  | no => exact h
/-- from an expression to a statement -/
def R.toS {α : Type} (r : R α) (f : α → Sto → SR) : SR := match r with
  | .ok a s => f a s
  | .ex c s => .ex c s
  | .no => .no
@[simp] theorem R.toS_ok {α : Type} (a : α) (s : Sto) (f : α → Sto → SR) : (R.ok a s).toS f = f a s := rfl
@[simp] theorem R.toS_ex {α : Type} (c : Nat) (s : Sto) (f : α → Sto → SR) : (R.ex c s).toS f = .ex c s := rfl
@[simp] theorem R.toS_no {α : Type} (f : α → Sto → SR) : (R.no : R α).toS f = .no := rfl
@[simp] theorem R.toS_ite {α : Type} (c : Prop) [Decidable c] (a b : R α) (f : α → Sto → SR) : (if c then a else b).toS f = if c then a.toS f else b.toS f := by split <;> rfl
theorem PostS.bind {α β : Type} {rel : Hp → Pl → Sto → β → α → Prop} {C : MC} {E : XK} {H : Hp} {ρ : Pl} {st : Sto} {r : R α} {f : α → Sto → SR} {D : Ends} {Q : β → Hp → Prop} (h : PostS C E H ρ st (r.toS f) D)
    (k : ∀ (w : α) (st1 : Sto) (H1 : Hp) (ρ1 : Pl) (v : β), r = .ok w st1 → Evo H ρ st H1 ρ1 st1 → RelS C H1 ρ1 st1 → rel H1 ρ1 st1 v w → PostS C E H1 ρ1 st1 (f w st1) D → Q v H1) : Post rel C E H ρ st r Q := by
  cases r with
  | ok w st' => exact fun H' ρ' v e s q => k w st' H' ρ' v rfl e s q (PostS.shift (h : PostS C E H ρ st (f w st') D) e)
  | ex c st' => exact h
  | no => exact h

/-! ### the judgements -/
def ME (X : Cx) (C : MC) (E : XK) (e : Expr) (m : Ex) : Prop := PE X e (tM C E m)
def MT (X : Cx) (C : MC) (E : XK) (e : Expr) (m : Bx) : Prop := PT X e (tMB C E m)
def MW (X : Cx) (C : MC) (E : XK) (e : Expr) (m : Bx) : Prop := PW X e (tMB C E m)
def MA (X : Cx) (C : MC) (E : XK) (es : List Expr) (m : Ax) : Prop := PA X es (tMA C E m)
def MS (X : Cx) (C : MC) (E : XK) (s : Stmt) (m : Sx) : Prop := PS X s (tMS C E m)
def MSs (X : Cx) (C : MC) (E : XK) (s : List Stmt) (m : Sx) : Prop := PSs X s (tMS C E m)
theorem PE.imp {X : Cx} {e : Expr} {t t' : TE} (h : PE X e t) (k : ∀ σ H Q, t' σ H Q → t σ H Q) : PE X e t' := ⟨fun pins s σ H Q I q => h.run pins s σ H Q I (k _ _ _ q)⟩
theorem PT.imp {X : Cx} {e : Expr} {t t' : TT} (h : PT X e t) (k : ∀ σ H Q, t' σ H Q → t σ H Q) : PT X e t' := ⟨fun pins s σ H Q I q => h.run pins s σ H Q I (k _ _ _ q)⟩
theorem PW.imp {X : Cx} {e : Expr} {t t' : TT} (h : PW X e t) (k : ∀ σ H Q, t' σ H Q → t σ H Q) : PW X e t' := ⟨fun wh pins s σ H Q I q => h.run wh pins s σ H Q I (k _ _ _ q)⟩
theorem PA.imp {X : Cx} {e : List Expr} {t t' : TA} (h : PA X e t) (k : ∀ σ H Q, t' σ H Q → t σ H Q) : PA X e t' := ⟨fun ps pins s σ H Q I q => h.run ps pins s σ H Q I (k _ _ _ q)⟩
theorem PS.imp {X : Cx} {e : Stmt} {t t' : TS} (h : PS X e t) (k : ∀ D σ H, t' D σ H → t D σ H) : PS X e t' := ⟨fun pins s σ H D I q => h.run pins s σ H D I (k _ _ _ q)⟩
theorem PSs.imp {X : Cx} {e : List Stmt} {t t' : TS} (h : PSs X e t) (k : ∀ D σ H, t' D σ H → t D σ H) : PSs X e t' := ⟨fun pins s σ H D I q => h.run pins s σ H D I (k _ _ _ q)⟩
end ML

/-! ML2: rules for expressions -/
namespace ML
open PySem L2
noncomputable section
variable {X : Cx} {C : MC} {E : XK}

/-! ### names, constants -/
def vr (i : Nat) : Ex := fun env st => match env[i]? with
  | some (some w) => .ok w st
  | _ => .no
def kk (w : W) : Ex := fun _ st => .ok w st
theorem me_var {i : Nat} {x : Str} {pos : Pos} (h : PE X (.Name x pos) (tVar i)) : ME X C E (.Name x pos) (vr i) := by
  refine PE.imp h fun σ H Q ⟨ρ, st, env, re, S, p⟩ => ?_
  unfold vr at p
  split at p
  · rename_i w e
    obtain ⟨v, q, r⟩ := re.2 i w e
    exact ⟨v, q, p H ρ v (Evo.refl ..) S r⟩
  · exact p.elim
theorem me_c {e : Expr} {v : V} {w : W} (h : PE X e (tC v)) (r : ∀ H ρ st, Rep C.K H ρ st v w) : ME X C E e (kk w) :=
  PE.imp h fun σ H Q ⟨ρ, st, env, re, S, p⟩ => p H ρ v (Evo.refl ..) S (r ..)
theorem me_int {i : Int} {j : Nat} {pos : Pos} : ME X C E (.Constant (.int i) j pos) (kk (.int i)) := me_c pe_int fun _ _ _ => .int i
theorem me_bl {b : Bool} {j : Nat} {pos : Pos} : ME X C E (.Constant (.bool b) j pos) (kk (.bl b)) := me_c pe_bl fun _ _ _ => .bl b
theorem me_non {j : Nat} {pos : Pos} : ME X C E (.Constant .none j pos) (kk .non) := me_c pe_non fun _ _ _ => .non
theorem me_str {x : Str} {j : Nat} {pos : Pos} : ME X C E (.Constant (.str x) j pos) (kk (.str x)) := me_c pe_str fun _ _ _ => .str x
/-- a constant of the module -/
structure GC (K : PySem.W.Frag) (v : V) (w : W) : Prop where
  rep : ∀ H ρ st, Rep K H ρ st v w
theorem me_glob {x : Str} {v : V} {w : W} {u : Value} {pos : Pos} (hg : Gl X x) (hm : X.mg x = some u) (r : RelV v u) (g : GC C.K v w) (hd : (x == ("__debug__" : Str)) = false := by decide) : ME X C E (.Name x pos) (kk w) :=
  me_c (pe_glob hg hm r hd) g.rep

/-! ### operators of two values -/
def bn (f : W → W → Sto → R W) (a b : Ex) : Ex := fun env st => (a env st).bind fun x s1 => (b env s1).bind fun y s2 => f x y s2
def un (f : W → Sto → R W) (a : Ex) : Ex := fun env st => (a env st).bind fun x s1 => f x s1
/-- the rule r reads as f -/
def OpM (C : MC) (E : XK) (r : R2) (f : W → W → Sto → R W) : Prop := ∀ (H : Hp) (ρ : Pl) (st : Sto) (v u : V) (x y : W) (Q : VK),
  RelS C H ρ st → Rep C.K H ρ st v x → Rep C.K H ρ st u y → Post (relW C) C E H ρ st (f x y st) Q → r v u H Q
theorem tOp_of {r : R2} {f : W → W → Sto → R W} {ma mb : Ex} (hf : OpM C E r f) {σ : St} {H : Hp} {Q : VK} (h : tM C E (bn f ma mb) σ H Q) : tOp r (tM C E ma) (tM C E mb) σ H Q := by
  obtain ⟨ρ, st, env, re, S, p⟩ := h
  refine ⟨ρ, st, env, re, S, Post.bind p fun x s1 H1 ρ1 v _ e1 S1 r1 p1 => ?_⟩
  refine ⟨ρ1, s1, env, re.evo e1 S.liv, S1, Post.bind p1 fun y s2 H2 ρ2 u _ e2 S2 r2 p2 => ?_⟩
  exact hf H2 ρ2 s2 v u x y Q S2 (r1.evo e2 S1.liv) r2 p2
variable {a b c e : Expr} {ma mb mc : Ex} {pos : Pos}
theorem me_op {op : Operator} {r : R2} {f : W → W → Sto → R W} (ho : OpR X (binaryOp op) r) (hf : OpM C E r f) (ha : ME X C E a ma) (hb : ME X C E b mb) : ME X C E (.BinOp a op b pos) (bn f ma mb) :=
  PE.imp (pe_op ho ha hb) fun _ _ _ h => tOp_of hf h
theorem me_cmp {op : CmpOp} {r : R2} {f : W → W → Sto → R W} (ho : OpR X (compareOp op) r) (hf : OpM C E r f) (ha : ME X C E a ma) (hb : ME X C E b mb) (hm : behindInMarks op b = false) : ME X C E (.Compare a [op] [b] pos) (bn f ma mb) :=
  PE.imp (pe_cmpR ho ha hb hm) fun _ _ _ h => tOp_of hf h
/-- a bool -/
def tb (a : Ex) : Bx := fun env st => (a env st).bind fun x s1 => x.cb fun k => .ok k s1
theorem tTest_of {t : TE} {m : Ex} (k : ∀ σ H Q, tM C E m σ H Q → t σ H Q) {σ : St} {H : Hp} {Q : Bool → Hp → Prop} (h : tMB C E (tb m) σ H Q) : t σ H fun x H' => ∃ k, x = .bl k ∧ Q k H' := by
  obtain ⟨ρ, st, env, re, S, p⟩ := h
  refine k _ _ _ ⟨ρ, st, env, re, S, Post.bind p fun x s1 H1 ρ1 v _ e1 S1 r1 p1 => ?_⟩
  cases x with
  | bl k => cases r1; exact ⟨k, rfl, p1 H1 ρ1 k (Evo.refl ..) S1 rfl⟩
  | _ => exact p1.elim
theorem mt_cmp {op : CmpOp} {r : R2} {f : W → W → Sto → R W} (ho : OpR X (compareOp op) r) (hf : OpM C E r f) (ha : ME X C E a ma) (hb : ME X C E b mb) (hm : behindInMarks op b = false) : MT X C E (.Compare a [op] [b] pos) (tb (bn f ma mb)) :=
  PT.imp (pt_cmpR ho ha hb hm) fun _ _ _ h => tTest_of (fun _ _ _ h => tOp_of hf h) h
def chn (f g : W → W → Sto → R W) (a b c : Ex) : Ex := fun env st => (a env st).bind fun x s1 => (b env s1).bind fun y s2 => (f x y s2).bind fun z s3 => z.cb fun k => if k = true then (c env s3).bind fun w s4 => g y w s4 else .ok (.bl false) s3
theorem Post.of {H : Hp} {ρ : Pl} {st : Sto} {r : R W} {Q : VK} (h : Post (relW C) C E H ρ st r Q) : Post (relW C) C E H ρ st r Q := h
theorem tChain_of {r r' : R2} {f g : W → W → Sto → R W} (hf : OpM C E r f) (hg : OpM C E r' g) {σ : St} {H : Hp} {Q : VK} (h : tM C E (chn f g ma mb mc) σ H Q) : tChain r r' (tM C E ma) (tM C E mb) (tM C E mc) σ H Q := by
  obtain ⟨ρ, st, env, re, S, p⟩ := h
  refine ⟨ρ, st, env, re, S, Post.bind p fun x s1 H1 ρ1 v _ e1 S1 r1 p1 => ?_⟩
  have re1 := re.evo e1 S.liv
  refine ⟨ρ1, s1, env, re1, S1, Post.bind p1 fun y s2 H2 ρ2 u _ e2 S2 r2 p2 => ?_⟩
  have re2 := re1.evo e2 S1.liv
  refine hf H2 ρ2 s2 v u x y _ S2 (r1.evo e2 S1.liv) r2 (Post.bind p2 fun z s3 H3 ρ3 vz _ e3 S3 r3 p3 => ?_)
  cases z with
  | bl k =>
    cases r3
    refine ⟨k, rfl, ?_⟩
    cases k with
    | false => exact (if_neg (by decide)).mpr (p3 H3 ρ3 _ (Evo.refl ..) S3 (.bl false))
    | true =>
      refine (if_pos rfl).mpr ?_
      refine ⟨ρ3, s3, env, re2.evo e3 S2.liv, S3, Post.bind p3 fun w s4 H4 ρ4 vw _ e4 S4 r4 p4 => ?_⟩
      exact hg H4 ρ4 s4 u vw y w _ S4 ((r2.evo e3 S2.liv).evo e4 S3.liv) r4 p4
  | _ => exact p3.elim
theorem me_chain {op op' : CmpOp} {r r' : R2} {f g : W → W → Sto → R W} (ho : OpR X (compareOp op) r) (ho' : OpR X (compareOp op') r') (hf : OpM C E r f) (hg : OpM C E r' g) (ha : ME X C E a ma) (hb : ME X C E b mb) (hc : ME X C E c mc)
    (hm : lastMarks [op, op'] [b, c] = false := by with_unfolding_all rfl) : ME X C E (.Compare a [op, op'] [b, c] pos) (chn f g ma mb mc) :=
  PE.imp (pe_chain ho ho' ha hb hc hm) fun _ _ _ h => tChain_of hf hg h
theorem mt_chain {op op' : CmpOp} {r r' : R2} {f g : W → W → Sto → R W} (ho : OpR X (compareOp op) r) (ho' : OpR X (compareOp op') r') (hf : OpM C E r f) (hg : OpM C E r' g) (ha : ME X C E a ma) (hb : ME X C E b mb) (hc : ME X C E c mc)
    (hm : lastMarks [op, op'] [b, c] = false := by with_unfolding_all rfl) : MT X C E (.Compare a [op, op'] [b, c] pos) (tb (chn f g ma mb mc)) :=
  PT.imp (pt_chain ho ho' ha hb hc hm) fun _ _ _ h => tTest_of (fun _ _ _ h => tChain_of hf hg h) h
/-- an expression whose value is a bool, as a test -/
theorem mt_val (h : ME X C E e ma) (he : ∀ whole, isTrue e X.env whole = (do let v ← whole; standAt e.pos; holding [v] (truthy v)) := by intro _; rfl) : MT X C E e (tb ma) :=
  PT.imp (pt_val h he) fun _ _ _ h => tTest_of (fun _ _ _ h => h) h

/-! ### lists and tuples that stand -/
def lstOf (s : Sto) (w : W) : Option (List W) := match w with
  | .fl ws => some ws
  | .loc l => match s[l]? with
    | some (.lst ws) => some ws
    | _ => none
  | _ => none
def seqOf (s : Sto) (w : W) : Option (List W) := match w with
  | .tup ws => some ws
  | .kl ws => some ws
  | w => lstOf s w
theorem lstOf_rep {H : Hp} {ρ : Pl} {st : Sto} {v : V} {w : W} {ws : List W} (S : RelS C H ρ st) (r : Rep C.K H ρ st v w) (h : lstOf st w = some ws) : ∃ a vs, v = .ref a ∧ H a = some (.lst vs) ∧ RepL C.K H ρ st vs ws := by
  cases r with
  | fl h1 h2 h3 => cases h; exact ⟨_, _, rfl, h1, h3⟩
  | @loc a l h1 =>
    unfold lstOf at h
    simp only at h
    split at h
    · rename_i ws' e
      cases h
      obtain ⟨vs, q, r⟩ := S.obj l a _ h1 e
      exact ⟨a, vs, rfl, q, r⟩
    · cases h
  | _ => cases h
theorem seqOf_rep {H : Hp} {ρ : Pl} {st : Sto} {v : V} {w : W} {ws : List W} (S : RelS C H ρ st) (r : Rep C.K H ρ st v w) (h : seqOf st w = some ws) : ∃ a vs, v = .ref a ∧ (SqL C.K H a vs ∨ SqT C.K H a vs) ∧ RepL C.K H ρ st vs ws := by
  cases w with
  | tup ws' => cases r with | tup h1 h2 => cases h; exact ⟨_, _, rfl, .inr h1, h2⟩
  | kl ws' => cases r with | kl h1 h2 => cases h; exact ⟨_, _, rfl, .inl h1.seq, h2⟩
  | fl ws' => obtain ⟨a, vs, e, q, r⟩ := lstOf_rep S r (show lstOf st (.fl ws') = some ws from h); exact ⟨a, vs, e, .inl (SqL.of q), r⟩
  | loc l => obtain ⟨a, vs, e, q, r⟩ := lstOf_rep S r (show lstOf st (.loc l) = some ws from h); exact ⟨a, vs, e, .inl (SqL.of q), r⟩
  | _ => cases h
theorem fl_new {H : Hp} {ρ : Pl} {st : Sto} {p : Addr} {vs : List V} {ws : List W} (S : RelS C H ρ st) (hp : H p = none) (r : RepL C.K H ρ st vs ws) : Rep C.K (upd H p (.lst vs)) ρ st (.ref p) (.fl ws) :=
  .fl upd_same (S.nl hp) (r.evo (Evo.laid hp) S.liv)
theorem tup_new {H : Hp} {ρ : Pl} {st : Sto} {p : Addr} {vs : List V} {ws : List W} (S : RelS C H ρ st) (hp : H p = none) (r : RepL C.K H ρ st vs ws) : Rep C.K (upd H p (.tup vs)) ρ st (.ref p) (.tup ws) :=
  .tup (SqT.of upd_same) (r.evo (Evo.laid hp) S.liv)
theorem loc_new {H : Hp} {ρ : Pl} {st : Sto} {p : Addr} (S : RelS C H ρ st) {o : HO} {u : O} : Rep C.K (upd H p o) (ρ.add p) (st ++ [u]) (.ref p) (.loc st.length) :=
  .loc (by rw [← S.len]; exact add_new)
theorem lst_push {H : Hp} {ρ : Pl} {st : Sto} {p : Addr} {vs : List V} {ws : List W} (S : RelS C H ρ st) (hp : H p = none) (r : RepL C.K H ρ st vs ws) : RelS C (upd H p (.lst vs)) (ρ.add p) (st ++ [.lst ws]) :=
  S.push hp ⟨vs, upd_same, r.evo (Evo.push hp) S.liv⟩

/-! ### the operators -/
theorem szL {n : Nat} (h : n ≤ 10000000) : n ≤ sizeLine := Nat.le_trans h (by decide)
def addW (x y : W) (s : Sto) : R W := match x, y with
  | .int i, .int j => .ok (.int (i + j)) s
  | .str i, .str j => if ck (i.length + j.length ≤ 10000000) = true then .ok (.str (i ++ j)) s else .no
  | .tup xs, .tup ys => if ck (xs ≠ [] ∧ xs.length + ys.length ≤ 10000000) = true then .ok (.tup (xs ++ ys)) s else .no
  | x, y => match lstOf s x, lstOf s y with
    | some xs, some ys => if ck (xs.length + ys.length ≤ 10000000) = true then .ok (.fl (xs ++ ys)) s else .no
    | _, _ => .no
def rAddU (K : PySem.W.Frag) : R2 := fun x y H Q => (rI0 (fun i j => .int (i + j)) x y H Q ∨ (∃ i j, x = .str i ∧ y = .str j ∧ i.length + j.length ≤ sizeLine ∧ Q (.str (i ++ j)) H)) ∨ (rCatT K x y H Q ∨ rCat x y H Q)
theorem or_add : OpR X (binaryOp .Add) (rAddU X.K) := (op_add.or op_add_str).or (op_catT.or op_cat)
theorem om_add : OpM C E (rAddU C.K) addW := by
  intro H ρ st v u x y Q S rx ry p
  unfold addW at p
  split at p
  · cases rx; cases ry
    exact .inl (.inl ⟨_, _, rfl, rfl, p H ρ _ (Evo.refl ..) S (.int _)⟩)
  · cases rx; cases ry
    split at p
    · rename_i h
      exact .inl (.inr ⟨_, _, rfl, rfl, szL (ck_iff.mp h), p H ρ _ (Evo.refl ..) S (.str _)⟩)
    · exact p.elim
  · cases rx with
    | tup h1 h2 =>
      cases ry with
      | tup h3 h4 =>
        split at p
        · rename_i xs ys h
          have nn : ∀ {us : List V} {ws : List W}, RepL C.K H ρ st us ws → (us = [] ↔ ws = []) := fun r => by cases r <;> simp
          have h := ck_iff.mp h
          refine .inr (.inl ⟨_, _, _, _, rfl, rfl, h1, h3, fun z => h.1 ((nn h2).mp z), by rw [h2.length, h4.length]; exact szL h.2, fun z => ?_, fun z q hq => ?_⟩)
          · refine p H ρ _ (Evo.refl ..) S (.tup h1 ?_)
            rw [(nn h4).mp z, List.append_nil]
            exact h2
          · exact p _ ρ _ (Evo.laid hq) (S.laid hq) (tup_new S hq (h2.append h4))
        · exact p.elim
  · split at p
    · rename_i xs ys e1 e2
      obtain ⟨a, vs, rfl, h1, r1⟩ := lstOf_rep S rx e1
      obtain ⟨b, us, rfl, h2, r2⟩ := lstOf_rep S ry e2
      split at p
      · rename_i h
        refine .inr (.inr ⟨_, _, _, _, rfl, rfl, h1, h2, by rw [r1.length, r2.length]; exact szL (ck_iff.mp h), fun q hq => ?_⟩)
        exact p _ ρ _ (Evo.laid hq) (S.laid hq) (fl_new S hq (r1.append r2))
      · exact p.elim
    · exact p.elim
/-- two ints -/
def intW (c : Int → Int → Bool) (g : Int → Int → W) (x y : W) (s : Sto) : R W := match x, y with
  | .int i, .int j => if c i j = true then .ok (g i j) s else .no
  | _, _ => .no
theorem om_rI {Cc : Int → Int → Prop} {c : Int → Int → Bool} {gV : Int → Int → V} {g : Int → Int → W} (hc : ∀ i j, c i j = true → Cc i j) (hr : ∀ H ρ st i j, Rep C.K H ρ st (gV i j) (g i j)) : OpM C E (rI Cc gV) (intW c g) := by
  intro H ρ st v u x y Q S rx ry p
  unfold intW at p
  split at p
  · cases rx; cases ry
    split at p
    · rename_i h
      exact ⟨_, _, rfl, rfl, hc _ _ h, p H ρ _ (Evo.refl ..) S (hr ..)⟩
    · exact p.elim
  · exact p.elim
def int0 (g : Int → Int → W) (x y : W) (s : Sto) : R W := match x, y with
  | .int i, .int j => .ok (g i j) s
  | _, _ => .no
theorem om_rI0 {gV : Int → Int → V} {g : Int → Int → W} (hr : ∀ H ρ st i j, Rep C.K H ρ st (gV i j) (g i j)) : OpM C E (rI0 gV) (int0 g) := by
  intro H ρ st v u x y Q S rx ry p
  unfold int0 at p
  split at p
  · cases rx; cases ry
    exact ⟨_, _, rfl, rfl, p H ρ _ (Evo.refl ..) S (hr ..)⟩
  · exact p.elim
abbrev subW := int0 fun i j => .int (i - j)
theorem om_sub : OpM C E (rI0 fun i j => .int (i - j)) subW := om_rI0 fun _ _ _ _ _ => .int _
def mulOk (i j : Int) : Bool := ck ((-(2 ^ 64) < i ∧ i < 2 ^ 64) ∨ (-(2 ^ 64) < j ∧ j < 2 ^ 64))
theorem mulOk_ok {i j : Int} (h : mulOk i j = true) : CMul i j := by
  unfold mulOk at h
  rw [ck_iff] at h
  exact h
/-- a product: two ints; a list some times -/
def mulW (x y : W) (s : Sto) : R W := match x, y with
  | .int i, .int j => if mulOk i j = true then .ok (.int (i * j)) s else .no
  | x, .int k => match lstOf s x with
    | some xs => if ck (-(2 ^ 63) ≤ k ∧ k < 2 ^ 63 ∧ xs.length * k.toNat ≤ 10000000) = true then .ok (.fl (List.replicate k.toNat xs).flatten) s else .no
    | none => .no
  | _, _ => .no
theorem RepL.rep {H : Hp} {ρ : Pl} {st : Sto} {vs : List V} {ws : List W} (r : RepL C.K H ρ st vs ws) : ∀ k : Nat, RepL C.K H ρ st (List.replicate k vs).flatten (List.replicate k ws).flatten
  | 0 => .nil
  | k + 1 => by
    rw [List.replicate_succ, List.flatten_cons, List.replicate_succ, List.flatten_cons]
    exact r.append (RepL.rep r k)
def rMulU : R2 := fun x y H Q => rI CMul (fun i j => .int (i * j)) x y H Q ∨ rRep x y H Q
theorem or_mul : OpR X (binaryOp .Mult) rMulU := op_mul.or op_rep
theorem om_mul : OpM C E rMulU mulW := by
  intro H ρ st v u x y Q S rx ry p
  unfold mulW at p
  split at p
  · cases rx; cases ry
    split at p
    · rename_i h
      exact .inl ⟨_, _, rfl, rfl, mulOk_ok h, p H ρ _ (Evo.refl ..) S (.int _)⟩
    · exact p.elim
  · split at p
    · rename_i e
      obtain ⟨a, vs, rfl, h1, r1⟩ := lstOf_rep S rx e
      cases ry
      split at p
      · rename_i h
        have h := ck_iff.mp h
        refine .inr ⟨_, _, _, rfl, rfl, h1, h.1, h.2.1, by rw [r1.length]; exact szL h.2.2, fun q hq => ?_⟩
        exact p _ ρ _ (Evo.laid hq) (S.laid hq) (fl_new S hq (r1.rep _))
      · exact p.elim
    · exact p.elim
  · exact p.elim
abbrev fdivW := intW (fun _ j => ck (0 < j ∧ j < 1073741824)) fun i j => .int (i / j)
theorem om_fdiv : OpM C E (rI CDiv fun i j => .int (i / j)) fdivW := om_rI (fun i j h => ck_iff.mp h) fun _ _ _ _ _ => .int _
abbrev modW := intW (fun _ j => ck (0 < j)) fun i j => .int (i % j)
theorem om_mod : OpM C E (rI (fun _ j => 0 < j) fun i j => .int (i % j)) modW := om_rI (fun _ _ h => ck_iff.mp h) fun _ _ _ _ _ => .int _
abbrev shrW := intW (fun _ j => ck (0 ≤ j)) fun i j => .int (i / 2 ^ j.toNat)
theorem om_shr : OpM C E (rI (fun _ j => 0 ≤ j) fun i j => .int (i / 2 ^ j.toNat)) shrW := om_rI (fun _ _ h => ck_iff.mp h) fun _ _ _ _ _ => .int _
abbrev andW := int0 fun i j => .int (Builtin.bitAnd i j)
theorem om_and : OpM C E (rI0 fun i j => .int (Builtin.bitAnd i j)) andW := om_rI0 fun _ _ _ _ _ => .int _
abbrev orW := int0 fun i j => .int (Builtin.bitOr i j)
theorem om_or : OpM C E (rI0 fun i j => .int (Builtin.bitOr i j)) orW := om_rI0 fun _ _ _ _ _ => .int _
abbrev ltW := int0 fun i j => .bl (decide (i < j))
theorem om_lt : OpM C E (rI0 fun i j => .bl (decide (i < j))) ltW := om_rI0 fun _ _ _ _ _ => .bl _
abbrev leW := int0 fun i j => .bl (decide (i ≤ j))
theorem om_le : OpM C E (rI0 fun i j => .bl (decide (i ≤ j))) leW := om_rI0 fun _ _ _ _ _ => .bl _
abbrev gtW := int0 fun i j => .bl (decide (j < i))
theorem om_gt : OpM C E (rI0 fun i j => .bl (decide (j < i))) gtW := om_rI0 fun _ _ _ _ _ => .bl _
abbrev geW := int0 fun i j => .bl (decide (j ≤ i))
theorem om_ge : OpM C E (rI0 fun i j => .bl (decide (j ≤ i))) geW := om_rI0 fun _ _ _ _ _ => .bl _
/-- unary -/
def UnM (C : MC) (E : XK) (r : V → Hp → VK → Prop) (f : W → Sto → R W) : Prop := ∀ (H : Hp) (ρ : Pl) (st : Sto) (v : V) (x : W) (Q : VK),
  RelS C H ρ st → Rep C.K H ρ st v x → Post (relW C) C E H ρ st (f x st) Q → r v H Q
theorem tUn_of {r : V → Hp → VK → Prop} {f : W → Sto → R W} (hf : UnM C E r f) {σ : St} {H : Hp} {Q : VK} (h : tM C E (un f ma) σ H Q) : tUn r (tM C E ma) σ H Q := by
  obtain ⟨ρ, st, env, re, S, p⟩ := h
  exact ⟨ρ, st, env, re, S, Post.bind p fun x s1 H1 ρ1 v _ e1 S1 r1 p1 => hf H1 ρ1 s1 v x Q S1 r1 p1⟩
def negW (x : W) (s : Sto) : R W := match x with
  | .int i => .ok (.int (-i)) s
  | _ => .no
theorem om_neg : UnM C E (rU fun i => .int (-i)) negW := by
  intro H ρ st v x Q S rx p
  unfold negW at p
  split at p
  · cases rx; exact ⟨_, rfl, p H ρ _ (Evo.refl ..) S (.int _)⟩
  · exact p.elim
theorem me_neg (ha : ME X C E a ma) : ME X C E (.UnaryOp .USub a pos) (un negW ma) := PE.imp (pe_un un_neg ha) fun _ _ _ h => tUn_of om_neg h

/-! ### equality -/
mutual
def datW : W → Option PyData
  | .non => some .none
  | .bl b => some (.bool b)
  | .int i => some (.int i)
  | .str x => some (.str x)
  | .tup ws => (datL ws).map .tuple
  | .fl ws => (datL ws).map .list
  | .kl ws => (datL ws).map .list
  | .raw _ => none
  | .loc _ => none
def datL : List W → Option (List PyData)
  | [] => some []
  | w :: ws => match datW w, datL ws with
    | some d, some ds => some (d :: ds)
    | _, _ => none
end
/-- a list that can be changed counts with what it holds now; what it holds: lists again, to a depth -/
def datS (s : Sto) : Nat → W → Option PyData
  | 0, w => datW w
  | n + 1, w => match lstOf s w with
    | some ws => ((ws.mapM (datS s n)).map .list)
    | none => datW w
theorem datW_rep {H : Hp} {ρ : Pl} {st : Sto} : (∀ (w : W) (v : V) (d : PyData), Rep C.K H ρ st v w → datW w = some d → Dp C.K H v d) := by
  intro w
  refine W.rec (motive_1 := fun w => ∀ (v : V) (d : PyData), Rep C.K H ρ st v w → datW w = some d → Dp C.K H v d) (motive_2 := fun ws => ∀ (vs : List V) (ds : List PyData), RepL C.K H ρ st vs ws → datL ws = some ds → DpAll C.K H vs ds)
    ?_ ?_ ?_ ?_ ?_ ?_ ?_ ?_ ?_ ?_ ?_ w
  · intro v d r h; cases r; simp [datW] at h; subst h; exact .non
  · intro b v d r h; cases r; simp [datW] at h; subst h; exact .bl b
  · intro b v d r h; cases r; simp [datW] at h; subst h; exact .int b
  · intro b v d r h; cases r; simp [datW] at h; subst h; exact .str b
  · intro b v d r h; simp [datW] at h
  · intro ws ih v d r h
    cases r with
    | tup h1 h2 =>
      simp only [datW, Option.map_eq_some_iff] at h
      obtain ⟨ds, e, rfl⟩ := h
      exact .tup h1 (ih _ _ h2 e)
  · intro ws ih v d r h
    cases r with
    | fl h1 _ h2 =>
      simp only [datW, Option.map_eq_some_iff] at h
      obtain ⟨ds, e, rfl⟩ := h
      exact .lst (SqL.of h1) (ih _ _ h2 e)
  · intro ws ih v d r h
    cases r with
    | kl h1 h2 =>
      simp only [datW, Option.map_eq_some_iff] at h
      obtain ⟨ds, e, rfl⟩ := h
      exact .lst h1.seq (ih _ _ h2 e)
  · intro l v d r h; simp [datW] at h
  · intro vs ds r h; cases r; simp [datL] at h; subst h; exact .nil
  · intro w ws ih1 ih2 vs ds r h
    cases r with
    | cons h1 h2 =>
      simp only [datL] at h
      split at h
      · rename_i d ds' e1 e2
        cases h
        exact .cons (ih1 _ _ h1 e1) (ih2 _ _ h2 e2)
      · cases h
theorem datS_rep {H : Hp} {ρ : Pl} {st : Sto} (S : RelS C H ρ st) : ∀ (n : Nat) (w : W) (v : V) (d : PyData), Rep C.K H ρ st v w → datS st n w = some d → Dp C.K H v d
  | 0, w, v, d, r, h => datW_rep w v d r h
  | n + 1, w, v, d, r, h => by
    unfold datS at h
    split at h
    · rename_i ws e
      obtain ⟨a, vs, rfl, h1, r1⟩ := lstOf_rep S r e
      simp only [Option.map_eq_some_iff] at h
      obtain ⟨ds, e2, rfl⟩ := h
      refine .lst (SqL.of h1) ?_
      clear r h1 e
      induction ws generalizing vs ds with
      | nil => cases r1; simp at e2; subst e2; exact .nil
      | cons w ws ih =>
        cases r1 with
        | cons q1 q2 =>
          rw [List.mapM_cons] at e2
          cases e3 : datS st n w with
          | none => rw [e3] at e2; simp at e2
          | some d =>
            rw [e3] at e2
            cases e4 : ws.mapM (datS st n) with
            | none => rw [e4] at e2; simp at e2
            | some ds' =>
              rw [e4] at e2
              simp at e2
              subst e2
              exact .cons (datS_rep S n w _ d q1 e3) (ih _ q2 _ e4)
    · exact datW_rep w v d r h
def eqW (x y : W) (s : Sto) : R W := match datS s 3 x, datS s 3 y with
  | some d, some e => if SeqAt.shaped d = true ∧ SeqAt.shaped e = true then .ok (.bl (PyData.eqv d e)) s else .no
  | _, _ => .no
def neW (x y : W) (s : Sto) : R W := match datS s 3 x, datS s 3 y with
  | some d, some e => if SeqAt.shaped d = true ∧ SeqAt.shaped e = true then .ok (.bl (!PyData.eqv d e)) s else .no
  | _, _ => .no
theorem om_eq : OpM C E (rEqD C.K) eqW := by
  intro H ρ st v u x y Q S rx ry p
  unfold eqW at p
  split at p
  · rename_i d e hd he
    split at p
    · rename_i h
      exact ⟨d, e, datS_rep S 3 x v d rx hd, datS_rep S 3 y u e ry he, h.1, h.2, p H ρ _ (Evo.refl ..) S (.bl _)⟩
    · exact p.elim
  · exact p.elim
theorem om_ne : OpM C E (rNeD C.K) neW := by
  intro H ρ st v u x y Q S rx ry p
  unfold neW at p
  split at p
  · rename_i d e hd he
    split at p
    · rename_i h
      exact ⟨d, e, datS_rep S 3 x v d rx hd, datS_rep S 3 y u e ry he, h.1, h.2, p H ρ _ (Evo.refl ..) S (.bl _)⟩
    · exact p.elim
  · exact p.elim
/-- in, not in: flat items -/
def flatW : W → Bool
  | .non => true | .bl _ => true | .int _ => true | .str _ => true | _ => false
def veqW : W → W → Bool
  | .non, .non => true
  | .bl a, .bl b => a == b
  | .int i, .int j => i == j
  | .bl a, .int i => (if a then (1 : Int) else 0) == i
  | .int i, .bl a => i == (if a then (1 : Int) else 0)
  | .str x, .str y => x == y
  | _, _ => false
theorem flat_of {H : Hp} {ρ : Pl} {st : Sto} {v : V} {w : W} (r : Rep C.K H ρ st v w) (f : flatW w = true) : flatV v = true := by
  cases r with
  | non => rfl
  | bl b => rfl
  | int b => rfl
  | str b => rfl
  | _ => simp [flatW] at f
def inW (x y : W) (s : Sto) : R W := match seqOf s y with
  | some ys => if flatW x = true ∧ ys.all flatW = true then .ok (.bl (ys.any fun z => veqW z x)) s else .no
  | none => .no
def ninW (x y : W) (s : Sto) : R W := match seqOf s y with
  | some ys => if flatW x = true ∧ ys.all flatW = true then .ok (.bl (!(ys.any fun z => veqW z x))) s else .no
  | none => .no
theorem veq_of {H : Hp} {ρ : Pl} {st : Sto} {v u : V} {x y : W} (rx : Rep C.K H ρ st v x) (ry : Rep C.K H ρ st u y) (fx : flatW x = true) (fy : flatW y = true) : eqV v u = veqW x y := by
  cases rx <;> first | (simp [flatW] at fx; done) | (cases ry <;> first | (simp [flatW] at fy; done) | rfl)
theorem inV_of {H : Hp} {ρ : Pl} {st : Sto} {v : V} {x : W} (rx : Rep C.K H ρ st v x) (fx : flatW x = true) : ∀ {vs : List V} {ys : List W}, RepL C.K H ρ st vs ys → ys.all flatW = true → vs.all flatV = true ∧ inV v vs = ys.any fun z => veqW z x
  | _, _, .nil, _ => ⟨rfl, rfl⟩
  | _, _, .cons h r, f => by
    rw [List.all_cons, Bool.and_eq_true] at f
    obtain ⟨h1, h2⟩ := inV_of rx fx r f.2
    refine ⟨by rw [List.all_cons, flat_of h f.1, h1]; rfl, ?_⟩
    unfold inV at h2 ⊢
    rw [List.any_cons, List.any_cons, h2, veq_of h rx f.1 fx]
theorem om_in : OpM C E (rIn C.K false) inW := by
  intro H ρ st v u x y Q S rx ry p
  unfold inW at p
  split at p
  · rename_i ys e
    split at p
    · rename_i h
      obtain ⟨a, vs, rfl, q, r⟩ := seqOf_rep S ry e
      obtain ⟨h1, h2⟩ := inV_of rx h.1 r h.2
      refine ⟨a, vs, rfl, q, flat_of rx h.1, h1, ?_⟩
      rw [h2]
      exact p H ρ _ (Evo.refl ..) S (.bl _)
    · exact p.elim
  · exact p.elim
theorem om_nin : OpM C E (rIn C.K true) ninW := by
  intro H ρ st v u x y Q S rx ry p
  unfold ninW at p
  split at p
  · rename_i ys e
    split at p
    · rename_i h
      obtain ⟨a, vs, rfl, q, r⟩ := seqOf_rep S ry e
      obtain ⟨h1, h2⟩ := inV_of rx h.1 r h.2
      refine ⟨a, vs, rfl, q, flat_of rx h.1, h1, ?_⟩
      rw [h2]
      exact p H ρ _ (Evo.refl ..) S (.bl _)
    · exact p.elim
  · exact p.elim
end
end ML

/-! ML3: tests, displays, built-ins, items, slices, methods, fields -/
namespace ML
open PySem L2
noncomputable section
variable {X : Cx} {C : MC} {E : XK} {a b c e o : Expr} {ma mb mc mo : Ex} {pos : Pos}

/-! ### and, or, not -/
def andE (a b : Ex) : Ex := fun env st => (a env st).bind fun x s1 => x.cb fun k => if k = true then b env s1 else .ok (.bl false) s1
def orE (a b : Ex) : Ex := fun env st => (a env st).bind fun x s1 => x.cb fun k => if k = true then .ok (.bl true) s1 else b env s1
def notW (x : W) (s : Sto) : R W := match x with
  | .bl k => .ok (.bl (!k)) s
  | _ => .no
theorem me_one {op} (h : ME X C E a ma) : ME X C E (.BoolOp op [a] pos) ma := pe_one h
theorem me_and {rest : List Expr} (ha : ME X C E a ma) (hb : ME X C E (.BoolOp .And (b :: rest) pos) mb) : ME X C E (.BoolOp .And (a :: b :: rest) pos) (andE ma mb) := by
  refine PE.imp (pe_and ha hb) fun σ H Q ⟨ρ, st, env, re, S, p⟩ => ⟨ρ, st, env, re, S, Post.bind p fun x s1 H1 ρ1 v _ e1 S1 r1 p1 => ?_⟩
  cases x with
  | bl k =>
    cases r1
    refine ⟨k, rfl, ?_⟩
    cases k with
    | true => exact (if_pos rfl).mpr ⟨ρ1, s1, env, re.evo e1 S.liv, S1, p1⟩
    | false => exact (if_neg (by decide)).mpr (p1 H1 ρ1 _ (Evo.refl ..) S1 (.bl false))
  | _ => exact p1.elim
theorem me_or {rest : List Expr} (ha : ME X C E a ma) (hb : ME X C E (.BoolOp .Or (b :: rest) pos) mb) : ME X C E (.BoolOp .Or (a :: b :: rest) pos) (orE ma mb) := by
  refine PE.imp (pe_or ha hb) fun σ H Q ⟨ρ, st, env, re, S, p⟩ => ⟨ρ, st, env, re, S, Post.bind p fun x s1 H1 ρ1 v _ e1 S1 r1 p1 => ?_⟩
  cases x with
  | bl k =>
    cases r1
    refine ⟨k, rfl, ?_⟩
    cases k with
    | true => exact (if_pos rfl).mpr (p1 H1 ρ1 _ (Evo.refl ..) S1 (.bl true))
    | false => exact (if_neg (by decide)).mpr ⟨ρ1, s1, env, re.evo e1 S.liv, S1, p1⟩
  | _ => exact p1.elim
theorem me_not (ha : ME X C E a ma) : ME X C E (.UnaryOp .Not a pos) (un notW ma) := by
  refine PE.imp (pe_not ha) fun σ H Q ⟨ρ, st, env, re, S, p⟩ => ⟨ρ, st, env, re, S, Post.bind p fun x s1 H1 ρ1 v _ e1 S1 r1 p1 => ?_⟩
  cases x with
  | bl k => cases r1; exact ⟨k, rfl, p1 H1 ρ1 _ (Evo.refl ..) S1 (.bl _)⟩
  | _ => exact p1.elim
def andB (a b : Bx) : Bx := fun env st => (a env st).bind fun k s1 => if k = true then b env s1 else .ok false s1
def orB (a b : Bx) : Bx := fun env st => (a env st).bind fun k s1 => if k = true then .ok true s1 else b env s1
def notB (a : Bx) : Bx := fun env st => (a env st).bind fun k s1 => .ok (!k) s1
variable {ka kb : Bx}
theorem mw_and1 (ha : MT X C E a ka) : MW X C E (.BoolOp .And [a] pos) ka := pw_and1 ha
theorem mw_or1 (ha : MT X C E a ka) : MW X C E (.BoolOp .Or [a] pos) ka := pw_or1 ha
theorem mt_w (h : MW X C E a ka) : MT X C E a ka := PW.pt h
theorem mw_and {rest : List Expr} (ha : MT X C E a ka) (hb : MW X C E (.BoolOp .And (b :: rest) pos) kb) : MW X C E (.BoolOp .And (a :: b :: rest) pos) (andB ka kb) := by
  refine PW.imp (pw_and ha hb) fun σ H Q ⟨ρ, st, env, re, S, p⟩ => ⟨ρ, st, env, re, S, Post.bind (rel := relB) p fun x s1 H1 ρ1 v _ e1 S1 r1 p1 => ?_⟩
  have r1 : v = x := r1
  subst r1
  cases v with
  | true => exact (if_pos rfl).mpr ⟨ρ1, s1, env, re.evo e1 S.liv, S1, p1⟩
  | false => exact (if_neg (by decide)).mpr (p1 H1 ρ1 _ (Evo.refl ..) S1 rfl)
theorem mw_or {rest : List Expr} (ha : MT X C E a ka) (hb : MW X C E (.BoolOp .Or (b :: rest) pos) kb) : MW X C E (.BoolOp .Or (a :: b :: rest) pos) (orB ka kb) := by
  refine PW.imp (pw_or ha hb) fun σ H Q ⟨ρ, st, env, re, S, p⟩ => ⟨ρ, st, env, re, S, Post.bind (rel := relB) p fun x s1 H1 ρ1 v _ e1 S1 r1 p1 => ?_⟩
  have r1 : v = x := r1
  subst r1
  cases v with
  | true => exact (if_pos rfl).mpr (p1 H1 ρ1 _ (Evo.refl ..) S1 rfl)
  | false => exact (if_neg (by decide)).mpr ⟨ρ1, s1, env, re.evo e1 S.liv, S1, p1⟩
theorem mt_not (ha : MT X C E a ka) : MT X C E (.UnaryOp .Not a pos) (notB ka) := by
  refine PT.imp (pt_not ha) fun σ H Q ⟨ρ, st, env, re, S, p⟩ => ⟨ρ, st, env, re, S, Post.bind (rel := relB) p fun x s1 H1 ρ1 v _ e1 S1 r1 p1 => ?_⟩
  have r1 : v = x := r1
  subst r1
  exact p1 H1 ρ1 _ (Evo.refl ..) S1 rfl
def ifE (k : Bx) (a b : Ex) : Ex := fun env st => (k env st).bind fun k s1 => if k = true then a env s1 else b env s1
theorem me_if (hc : MT X C E c ka) (ha : ME X C E a ma) (hb : ME X C E b mb) : ME X C E (.IfExp c a b pos) (ifE ka ma mb) := by
  refine PE.imp (pe_ifExp hc ha hb) fun σ H Q ⟨ρ, st, env, re, S, p⟩ => ⟨ρ, st, env, re, S, Post.bind (rel := relB) p fun x s1 H1 ρ1 v _ e1 S1 r1 p1 => ?_⟩
  have r1 : v = x := r1
  subst r1
  cases v with
  | true => exact (if_pos rfl).mpr ⟨ρ1, s1, env, re.evo e1 S.liv, S1, p1⟩
  | false => exact (if_neg (by decide)).mpr ⟨ρ1, s1, env, re.evo e1 S.liv, S1, p1⟩
/-- the truth of a value of any kind -/
def truW (s : Sto) (w : W) : Option Bool := match w with
  | .non => some false
  | .bl b => some b
  | .int i => some (i != 0)
  | w => match seqOf s w with
    | some ws => some (!ws.isEmpty)
    | none => match w with
      | .loc l => match s[l]? with
        | some (.dct kvs) => some (!kvs.isEmpty)
        | _ => none
      | _ => none
theorem RepL.isEmpty {K : PySem.W.Frag} {H : Hp} {ρ : Pl} {st : Sto} {vs : List V} {ws : List W} (r : RepL K H ρ st vs ws) : vs.isEmpty = ws.isEmpty := by cases r <;> rfl
theorem RepK.isEmpty {K : PySem.W.Frag} {H : Hp} {ρ : Pl} {st : Sto} : ∀ {vs : List (Key × V)} {ws : List (Key × W)}, RepK K H ρ st vs ws → vs.isEmpty = ws.isEmpty
  | [], [], _ => rfl
  | _ :: _, _ :: _, _ => rfl
  | [], _ :: _, h => h.elim
  | _ :: _, [], h => h.elim
def trB (a : Ex) : Bx := fun env st => (a env st).bind fun x s1 => match truW s1 x with
  | some k => .ok k s1
  | none => .no
theorem truW_rep {H : Hp} {ρ : Pl} {st : Sto} {v : V} {w : W} {k : Bool} (S : RelS C H ρ st) (r : Rep C.K H ρ st v w) (h : truW st w = some k) : TruV C.K v H k := by
  have sq : ∀ ws, seqOf st w = some ws → k = !ws.isEmpty → TruV C.K v H k := fun ws e hk => by
    obtain ⟨a, vs, rfl, q, r⟩ := seqOf_rep S r e
    rw [← r.isEmpty] at hk
    rcases q with q | q
    · exact .inl ⟨vs, q, hk⟩
    · exact .inr (.inl ⟨vs, q, hk⟩)
  unfold truW at h
  cases w with
  | non => cases r; cases h; rfl
  | bl b => cases r; cases h; rfl
  | int i => cases r; cases h; rfl
  | str x => simp [seqOf, lstOf] at h
  | raw x => simp [seqOf, lstOf] at h
  | tup ws => exact sq ws rfl (by simpa [seqOf] using h.symm)
  | fl ws => exact sq ws rfl (by simpa [seqOf, lstOf] using h.symm)
  | kl ws => exact sq ws rfl (by simpa [seqOf] using h.symm)
  | loc l =>
    simp only at h
    split at h
    · rename_i ws e
      exact sq ws e (by simpa using h.symm)
    · split at h
      · rename_i kvs e
        cases r with
        | loc r =>
          obtain ⟨vs, q, r⟩ := S.obj l _ _ r e
          exact .inr (.inr ⟨vs, q, by rw [RepK.isEmpty r]; simpa using h.symm⟩)
      · cases h
theorem mt_truth (hK : C.K = X.K) (ha : ME X C E a ma) (he : ∀ whole, isTrue a X.env whole = (do let v ← whole; standAt a.pos; holding [v] (truthy v)) := by intro _; rfl) : MT X C E a (trB ma) := by
  refine PT.imp (pt_truth ha he) fun σ H Q ⟨ρ, st, env, re, S, p⟩ => ⟨ρ, st, env, re, S, Post.bind p fun x s1 H1 ρ1 v _ e1 S1 r1 p1 => ?_⟩
  split at p1
  · rename_i k e
    exact ⟨k, hK ▸ truW_rep S1 r1 e, p1 H1 ρ1 _ (Evo.refl ..) S1 rfl⟩
  · exact p1.elim
/-- is None, is not None -/
def isnW (x : W) (s : Sto) : R W := match x with
  | .non => .ok (.bl true) s
  | .raw _ => .no
  | _ => .ok (.bl false) s
def nonW (x : W) (s : Sto) : R W := match x with
  | .non => .ok (.bl false) s
  | .raw _ => .no
  | _ => .ok (.bl true) s
theorem me_isN {j pos'} (ha : ME X C E a ma) : ME X C E (.Compare a [.Is] [.Constant .none j pos'] pos) (un isnW ma) := by
  refine PE.imp (pe_cmp (pc_isN ha) rfl) fun σ H Q ⟨ρ, st, env, re, S, p⟩ => ⟨ρ, st, env, re, S, Post.bind p fun x s1 H1 ρ1 v _ e1 S1 r1 p1 => ?_⟩
  cases r1 <;> first | exact p1.elim | exact p1 H1 ρ1 _ (Evo.refl ..) S1 (.bl _)
theorem me_notN {j pos'} (ha : ME X C E a ma) : ME X C E (.Compare a [.IsNot] [.Constant .none j pos'] pos) (un nonW ma) := by
  refine PE.imp (pe_cmp (pc_notN ha) rfl) fun σ H Q ⟨ρ, st, env, re, S, p⟩ => ⟨ρ, st, env, re, S, Post.bind p fun x s1 H1 ρ1 v _ e1 S1 r1 p1 => ?_⟩
  cases r1 <;> first | exact p1.elim | exact p1 H1 ρ1 _ (Evo.refl ..) S1 (.bl _)

/-! ### argument lists, displays -/
structure MA' (X : Cx) (C : MC) (E : XK) (es : List Expr) (m : Ax) : Prop where
  pa : PA X es (tMA C E m)
  ln : ∀ env st ws st', m env st = .ok ws st' → ws.length = es.length
def axn : Ax := fun _ st => .ok [] st
def axc (a : Ex) (r : Ax) : Ax := fun env st => (a env st).bind fun x s1 => (r env s1).bind fun xs s2 => .ok (x :: xs) s2
theorem ma_nil : MA' X C E [] axn := by
  refine ⟨PA.imp pa_nil fun σ H Q ⟨ρ, st, env, re, S, p⟩ => p H ρ [] (Evo.refl ..) S .nil, fun env st ws st' h => ?_⟩
  cases h
  rfl
theorem ma_cons {es : List Expr} {mr : Ax} (ha : ME X C E a ma) (hr : MA' X C E es mr) (hs : starEach (a :: es) X.env = (false, eval a X.env) :: starEach es X.env := by rfl) : MA' X C E (a :: es) (axc ma mr) := by
  refine ⟨PA.imp (pa_cons ha hr.pa hs) fun σ H Q ⟨ρ, st, env, re, S, p⟩ => ⟨ρ, st, env, re, S, Post.bind p fun x s1 H1 ρ1 v _ e1 S1 r1 p1 => ?_⟩, fun env st ws st' h => ?_⟩
  · refine ⟨ρ1, s1, env, re.evo e1 S.liv, S1, Post.bind p1 fun xs s2 H2 ρ2 vs _ e2 S2 r2 p2 => ?_⟩
    exact p2 H2 ρ2 _ (Evo.refl ..) S2 (.cons (r1.evo e2 S1.liv) r2)
  · unfold axc at h
    cases h1 : ma env st with
    | ok x s1 =>
      rw [h1, R.bind_ok] at h
      cases h2 : mr env s1 with
      | ok xs s2 =>
        rw [h2, R.bind_ok] at h
        cases h
        exact congrArg (· + 1) (hr.ln _ _ _ _ h2)
      | _ => rw [h2] at h; cases h
    | _ => rw [h1] at h; cases h
variable {es : List Expr} {mr : Ax}
def tupE (m : Ax) : Ex := fun env st => (m env st).bind fun ws s => .ok (.tup ws) s
def flE (m : Ax) : Ex := fun env st => (m env st).bind fun ws s => .ok (.fl ws) s
def lsE (m : Ax) : Ex := fun env st => (m env st).bind fun ws s => .ok (.loc s.length) (s ++ [.lst ws])
theorem me_tup {x1} (h : MA' X C E es mr) (hl : es.length ≤ 1000 := by decide) : ME X C E (.Tuple es x1 pos) (tupE mr) := by
  refine PE.imp (pe_tup h.pa) fun σ H Q ⟨ρ, st, env, re, S, p⟩ => ⟨ρ, st, env, re, S, Post.bind p fun x s1 H1 ρ1 v hx e1 S1 r1 p1 => ⟨?_, fun q hq => ?_⟩⟩
  · rw [r1.length, h.ln _ _ _ _ hx]
    exact Nat.le_trans hl (by decide)
  · exact p1 _ ρ1 _ (Evo.laid hq) (S1.laid hq) (tup_new S1 hq r1)
theorem me_fl (h : MA' X C E es mr) (hl : es.length ≤ 1000 := by decide) : ME X C E (.List es pos) (flE mr) := by
  refine PE.imp (pe_lst h.pa) fun σ H Q ⟨ρ, st, env, re, S, p⟩ => ⟨ρ, st, env, re, S, Post.bind p fun x s1 H1 ρ1 v hx e1 S1 r1 p1 => ⟨?_, fun q hq => ?_⟩⟩
  · rw [r1.length, h.ln _ _ _ _ hx]
    exact Nat.le_trans hl (by decide)
  · exact p1 _ ρ1 _ (Evo.laid hq) (S1.laid hq) (fl_new S1 hq r1)
theorem me_ls (h : MA' X C E es mr) (hl : es.length ≤ 1000 := by decide) : ME X C E (.List es pos) (lsE mr) := by
  refine PE.imp (pe_lst h.pa) fun σ H Q ⟨ρ, st, env, re, S, p⟩ => ⟨ρ, st, env, re, S, Post.bind p fun x s1 H1 ρ1 v hx e1 S1 r1 p1 => ⟨?_, fun q hq => ?_⟩⟩
  · rw [r1.length, h.ln _ _ _ _ hx]
    exact Nat.le_trans hl (by decide)
  · exact p1 _ (ρ1.add q) _ (Evo.push hq) (lst_push S1 hq r1) (loc_new S1)

/-! ### built-ins by their values -/
def ClM (C : MC) (E : XK) (r : List V → Hp → VK → Prop) (f : List W → Sto → R W) : Prop := ∀ (H : Hp) (ρ : Pl) (st : Sto) (vs : List V) (ws : List W) (Q : VK),
  RelS C H ρ st → RepL C.K H ρ st vs ws → Post (relW C) C E H ρ st (f ws st) Q → r vs H Q
def clE (f : List W → Sto → R W) (m : Ax) : Ex := fun env st => (m env st).bind fun ws s => f ws s
theorem tCB_of {r : List V → Hp → VK → Prop} {f : List W → Sto → R W} (hf : ClM C E r f) {σ : St} {H : Hp} {Q : VK} (h : tM C E (clE f mr) σ H Q) : tCB r (tMA C E mr) σ H Q := by
  obtain ⟨ρ, st, env, re, S, p⟩ := h
  exact ⟨ρ, st, env, re, S, Post.bind p fun x s1 H1 ρ1 v _ e1 S1 r1 p1 => hf H1 ρ1 s1 v x Q S1 r1 p1⟩
section
variable {x : Str} {p : Pos} {id T : String} {r : List V → Hp → VK → Prop} {f : List W → Sto → R W}
theorem me_callB (hc : CallR X (.builtin id) r) (hf : ClM C E r f) (hg : Gl X x) (hm : X.mg x = none) (hv : bootBuiltins x = some (.builtin id)) (ha : MA' X C E (e :: es) mr) (hn : x ≠ "__name__" := by decide) (hdb : (x == ("__debug__" : Str)) = false := by decide)
    (he : starEach (e :: es) X.env = (false, eval e X.env) :: starEach es X.env := by rfl) (hpl : (backTo pos (starEach es X.env)).any (·.1) = false := by rfl) : ME X C E (.Call (.Name x p) (e :: es) [] pos) (clE f mr) :=
  PE.imp (pe_callB hc hg hm hv ha.pa hn hdb he hpl) fun _ _ _ h => tCB_of hf h
theorem me_callTy (hc : CallR X (.type T) r) (hf : ClM C E r f) (hg : Gl X x) (hm : X.mg x = none) (hv : bootBuiltins x = some (.type T)) (ha : MA' X C E (e :: es) mr) (hn : x ≠ "__name__" := by decide) (hdb : (x == ("__debug__" : Str)) = false := by decide)
    (he : starEach (e :: es) X.env = (false, eval e X.env) :: starEach es X.env := by rfl) (hpl : (backTo pos (starEach es X.env)).any (·.1) = false := by rfl) : ME X C E (.Call (.Name x p) (e :: es) [] pos) (clE f mr) :=
  PE.imp (pe_callTy hc hg hm hv ha.pa hn hdb he hpl) fun _ _ _ h => tCB_of hf h
end
def lenF (ws : List W) (s : Sto) : R W := match ws with
  | [w] => match seqOf s w with
    | some xs => .ok (.int xs.length) s
    | none => .no
  | _ => .no
theorem cm_len : ClM C E (fun xs H Q => ∃ p ys, xs = [.ref p] ∧ (SqL C.K H p ys ∨ SqT C.K H p ys) ∧ Q (.int ys.length) H) lenF := by
  intro H ρ st vs ws Q S rs p
  unfold lenF at p
  split at p
  · obtain ⟨v, rfl, r⟩ := rs.one
    split at p
    · rename_i xs e
      obtain ⟨a, us, rfl, q, r⟩ := seqOf_rep S r e
      refine ⟨a, us, rfl, q, ?_⟩
      rw [r.length]
      exact p H ρ _ (Evo.refl ..) S (.int _)
    · exact p.elim
  · exact p.elim
def absF (ws : List W) (s : Sto) : R W := match ws with
  | [.int i] => .ok (.int (if i < 0 then -i else i)) s
  | _ => .no
theorem cm_abs : ClM C E (fun xs H Q => ∃ i, xs = [.int i] ∧ Q (.int (if i < 0 then -i else i)) H) absF := by
  intro H ρ st vs ws Q S rs p
  unfold absF at p
  split at p
  · obtain ⟨v, rfl, r⟩ := rs.one
    cases r
    exact ⟨_, rfl, p H ρ _ (Evo.refl ..) S (.int _)⟩
  · exact p.elim
def intF (ws : List W) (s : Sto) : R W := match ws with
  | [.int i] => .ok (.int i) s
  | [.bl k] => .ok (.int (if k then 1 else 0)) s
  | _ => .no
theorem cm_int : ClM C E (fun xs H Q => (∃ i, xs = [.int i] ∧ Q (.int i) H) ∨ ∃ k, xs = [.bl k] ∧ Q (.int (if k then 1 else 0)) H) intF := by
  intro H ρ st vs ws Q S rs p
  unfold intF at p
  split at p
  · obtain ⟨v, rfl, r⟩ := rs.one
    cases r
    exact .inl ⟨_, rfl, p H ρ _ (Evo.refl ..) S (.int _)⟩
  · obtain ⟨v, rfl, r⟩ := rs.one
    cases r
    exact .inr ⟨_, rfl, p H ρ _ (Evo.refl ..) S (.int _)⟩
  · exact p.elim
/-- the ints of a list of ints -/
def intsOf : List W → Option (List Int)
  | [] => some []
  | .int i :: ws => (intsOf ws).map (i :: ·)
  | _ :: _ => none
theorem intsOf_eq : ∀ {ws : List W} {ns : List Int}, intsOf ws = some ns → ws = ns.map W.int
  | [], ns, h => by cases h; rfl
  | w :: ws, ns, h => by
    cases w with
    | int i =>
      simp only [intsOf, Option.map_eq_some_iff] at h
      obtain ⟨ms, e, rfl⟩ := h
      rw [List.map_cons, intsOf_eq e]
    | _ => simp [intsOf] at h
@[simp] theorem intsOf_map (ns : List Int) : intsOf (ns.map W.int) = some ns := by
  induction ns with
  | nil => rfl
  | cons n ns ih => simp [intsOf, ih]
def blsOf : List W → Option (List Bool)
  | [] => some []
  | .bl i :: ws => (blsOf ws).map (i :: ·)
  | _ :: _ => none
theorem blsOf_eq : ∀ {ws : List W} {ns : List Bool}, blsOf ws = some ns → ws = ns.map W.bl
  | [], ns, h => by cases h; rfl
  | w :: ws, ns, h => by
    cases w with
    | bl i =>
      simp only [blsOf, Option.map_eq_some_iff] at h
      obtain ⟨ms, e, rfl⟩ := h
      rw [List.map_cons, blsOf_eq e]
    | _ => simp [blsOf] at h
@[simp] theorem blsOf_map (ns : List Bool) : blsOf (ns.map W.bl) = some ns := by
  induction ns with
  | nil => rfl
  | cons n ns ih => simp [blsOf, ih]
def lstK (s : Sto) (w : W) : Option (List W) := match w with
  | .kl ws => some ws
  | w => lstOf s w
theorem lstK_rep {H : Hp} {ρ : Pl} {st : Sto} {v : V} {w : W} {ws : List W} (S : RelS C H ρ st) (r : Rep C.K H ρ st v w) (h : lstK st w = some ws) : ∃ a vs, v = .ref a ∧ SqL C.K H a vs ∧ RepL C.K H ρ st vs ws := by
  cases w with
  | kl ws' => cases r with | kl h1 h2 => cases h; exact ⟨_, _, rfl, h1.seq, h2⟩
  | fl ws' => obtain ⟨a, vs, e, q, r⟩ := lstOf_rep S r (show lstOf st (.fl ws') = some ws from h); exact ⟨a, vs, e, SqL.of q, r⟩
  | loc l => obtain ⟨a, vs, e, q, r⟩ := lstOf_rep S r (show lstOf st (.loc l) = some ws from h); exact ⟨a, vs, e, SqL.of q, r⟩
  | _ => cases h
/-- all, any of a list of bools; sum of a list of ints -/
def allF (ws : List W) (s : Sto) : R W := match ws with
  | [w] => match (lstK s w).bind blsOf with
    | some bs => .ok (.bl (bs.all id)) s
    | none => .no
  | _ => .no
def anyF (ws : List W) (s : Sto) : R W := match ws with
  | [w] => match (lstK s w).bind blsOf with
    | some bs => .ok (.bl (bs.any id)) s
    | none => .no
  | _ => .no
def sumF (ws : List W) (s : Sto) : R W := match ws with
  | [w] => match (lstK s w).bind intsOf with
    | some bs => .ok (.int bs.sum) s
    | none => .no
  | _ => .no
theorem cm_all : ClM C E (rAll C.K) allF := by
  intro H ρ st vs ws Q S rs p
  unfold allF at p
  split at p
  · obtain ⟨v, rfl, r⟩ := rs.one
    split at p
    · rename_i bs e
      rw [Option.bind_eq_some_iff] at e
      obtain ⟨xs, e1, e2⟩ := e
      obtain ⟨a, us, rfl, q, r⟩ := lstK_rep S r e1
      rw [blsOf_eq e2] at r
      exact ⟨a, bs, rfl, r.bls ▸ q, p H ρ _ (Evo.refl ..) S (.bl _)⟩
    · exact p.elim
  · exact p.elim
theorem cm_any : ClM C E (rAny C.K) anyF := by
  intro H ρ st vs ws Q S rs p
  unfold anyF at p
  split at p
  · obtain ⟨v, rfl, r⟩ := rs.one
    split at p
    · rename_i bs e
      rw [Option.bind_eq_some_iff] at e
      obtain ⟨xs, e1, e2⟩ := e
      obtain ⟨a, us, rfl, q, r⟩ := lstK_rep S r e1
      rw [blsOf_eq e2] at r
      exact ⟨a, bs, rfl, r.bls ▸ q, p H ρ _ (Evo.refl ..) S (.bl _)⟩
    · exact p.elim
  · exact p.elim
theorem cm_sum : ClM C E (rSum C.K) sumF := by
  intro H ρ st vs ws Q S rs p
  unfold sumF at p
  split at p
  · obtain ⟨v, rfl, r⟩ := rs.one
    split at p
    · rename_i bs e
      rw [Option.bind_eq_some_iff] at e
      obtain ⟨xs, e1, e2⟩ := e
      obtain ⟨a, us, rfl, q, r⟩ := lstK_rep S r e1
      rw [intsOf_eq e2] at r
      exact ⟨a, bs, rfl, r.ints ▸ q, p H ρ _ (Evo.refl ..) S (.int _)⟩
    · exact p.elim
  · exact p.elim
/-- max, min: of two ints, of a list of ints -/
def maxL : List Int → Int
  | [] => 0
  | [x] => x
  | x :: y :: xs => max x (maxL (y :: xs))
def minL : List Int → Int
  | [] => 0
  | [x] => x
  | x :: y :: xs => min x (minL (y :: xs))
theorem maxL_le : ∀ {ns : List Int} {y : Int}, y ∈ ns → y ≤ maxL ns
  | [x], y, h => by simp at h; subst h; simp [maxL]
  | x :: z :: xs, y, h => by
    unfold maxL
    rcases List.mem_cons.mp h with rfl | h
    · omega
    · have := maxL_le h
      omega
theorem maxL_mem : ∀ {ns : List Int}, 0 < ns.length → maxL ns ∈ ns
  | [x], _ => by simp [maxL]
  | x :: z :: xs, _ => by
    unfold maxL
    have ih := maxL_mem (ns := z :: xs) (by simp)
    rcases Int.le_total x (maxL (z :: xs)) with h | h
    · rw [Int.max_eq_right h]; exact List.mem_cons_of_mem _ ih
    · rw [Int.max_eq_left h]; exact List.mem_cons_self
theorem minL_le : ∀ {ns : List Int} {y : Int}, y ∈ ns → minL ns ≤ y
  | [x], y, h => by simp at h; subst h; simp [minL]
  | x :: z :: xs, y, h => by
    unfold minL
    rcases List.mem_cons.mp h with rfl | h
    · omega
    · have := minL_le h
      omega
theorem minL_mem : ∀ {ns : List Int}, 0 < ns.length → minL ns ∈ ns
  | [x], _ => by simp [minL]
  | x :: z :: xs, _ => by
    unfold minL
    have ih := minL_mem (ns := z :: xs) (by simp)
    rcases Int.le_total x (minL (z :: xs)) with h | h
    · rw [Int.min_eq_left h]; exact List.mem_cons_self
    · rw [Int.min_eq_right h]; exact List.mem_cons_of_mem _ ih
def maxF (ws : List W) (s : Sto) : R W := match ws with
  | [.int i, .int j] => .ok (.int (max i j)) s
  | [w] => match (lstK s w).bind intsOf with
    | some ns => if 0 < ns.length then .ok (.int (maxL ns)) s else .no
    | none => .no
  | _ => .no
def minF (ws : List W) (s : Sto) : R W := match ws with
  | [.int i, .int j] => .ok (.int (min i j)) s
  | [w] => match (lstK s w).bind intsOf with
    | some ns => if 0 < ns.length then .ok (.int (minL ns)) s else .no
    | none => .no
  | _ => .no
def rMaxU (K : PySem.W.Frag) : List V → Hp → VK → Prop := fun xs H Q => (∃ i j, xs = [.int i, .int j] ∧ Q (.int (if j > i then j else i)) H) ∨ rMax K xs H Q
def rMinU (K : PySem.W.Frag) : List V → Hp → VK → Prop := fun xs H Q => (∃ i j, xs = [.int i, .int j] ∧ Q (.int (if j < i then j else i)) H) ∨ rMin K xs H Q
theorem cr_maxU (hc : X.calm = true) : CallR X (.builtin "max") (rMaxU X.K) := (call_max2 hc).or (cr_max hc)
theorem cr_minU (hc : X.calm = true) : CallR X (.builtin "min") (rMinU X.K) := (call_min2 hc).or (cr_min hc)
theorem cm_max : ClM C E (rMaxU C.K) maxF := by
  intro H ρ st vs ws Q S rs p
  unfold maxF at p
  split at p
  · obtain ⟨v, u, rfl, r1, r2⟩ := rs.two
    cases r1; cases r2
    rename_i i j
    refine .inl ⟨i, j, rfl, ?_⟩
    have e : (if j > i then j else i) = max i j := by split <;> omega
    rw [e]
    exact p H ρ _ (Evo.refl ..) S (.int _)
  · obtain ⟨v, rfl, r⟩ := rs.one
    split at p
    · rename_i bs e
      rw [Option.bind_eq_some_iff] at e
      obtain ⟨xs, e1, e2⟩ := e
      obtain ⟨a, us, rfl, q, r⟩ := lstK_rep S r e1
      rw [intsOf_eq e2] at r
      split at p
      · rename_i hl
        refine .inr ⟨a, bs, rfl, r.ints ▸ q, hl, fun m hm hle => ?_⟩
        have e : m = maxL bs := Int.le_antisymm (maxL_le hm) (hle _ (maxL_mem hl))
        rw [e]
        exact p H ρ _ (Evo.refl ..) S (.int _)
      · exact p.elim
    · exact p.elim
  · exact p.elim
theorem cm_min : ClM C E (rMinU C.K) minF := by
  intro H ρ st vs ws Q S rs p
  unfold minF at p
  split at p
  · obtain ⟨v, u, rfl, r1, r2⟩ := rs.two
    cases r1; cases r2
    rename_i i j
    refine .inl ⟨i, j, rfl, ?_⟩
    have e : (if j < i then j else i) = min i j := by split <;> omega
    rw [e]
    exact p H ρ _ (Evo.refl ..) S (.int _)
  · obtain ⟨v, rfl, r⟩ := rs.one
    split at p
    · rename_i bs e
      rw [Option.bind_eq_some_iff] at e
      obtain ⟨xs, e1, e2⟩ := e
      obtain ⟨a, us, rfl, q, r⟩ := lstK_rep S r e1
      rw [intsOf_eq e2] at r
      split at p
      · rename_i hl
        refine .inr ⟨a, bs, rfl, r.ints ▸ q, hl, fun m hm hle => ?_⟩
        have e : m = minL bs := Int.le_antisymm (hle _ (minL_mem hl)) (minL_le hm)
        rw [e]
        exact p H ρ _ (Evo.refl ..) S (.int _)
      · exact p.elim
    · exact p.elim
  · exact p.elim
/-- list(x): a list that stays, or one with a place; tuple(x) -/
def listF (ws : List W) (s : Sto) : R W := match ws with
  | [w] => match seqOf s w with
    | some xs => .ok (.fl xs) s
    | none => .no
  | _ => .no
def listLF (ws : List W) (s : Sto) : R W := match ws with
  | [w] => match seqOf s w with
    | some xs => .ok (.loc s.length) (s ++ [.lst xs])
    | none => .no
  | _ => .no
def tupF (ws : List W) (s : Sto) : R W := match ws with
  | [w] => match seqOf s w with
    | some xs => .ok (.tup xs) s
    | none => .no
  | _ => .no
abbrev rListOf (K : PySem.W.Frag) : List V → Hp → VK → Prop := fun xs H Q => ∃ p ys, xs = [.ref p] ∧ (SqL K H p ys ∨ SqT K H p ys) ∧ ∀ l, H l = none → Q (.ref l) (upd H l (.lst ys))
theorem cm_list : ClM C E (rListOf C.K) listF := by
  intro H ρ st vs ws Q S rs p
  unfold listF at p
  split at p
  · obtain ⟨v, rfl, r⟩ := rs.one
    split at p
    · rename_i xs e
      obtain ⟨a, us, rfl, q, r⟩ := seqOf_rep S r e
      exact ⟨a, us, rfl, q, fun l hl => p _ ρ _ (Evo.laid hl) (S.laid hl) (fl_new S hl r)⟩
    · exact p.elim
  · exact p.elim
theorem cm_listL : ClM C E (rListOf C.K) listLF := by
  intro H ρ st vs ws Q S rs p
  unfold listLF at p
  split at p
  · obtain ⟨v, rfl, r⟩ := rs.one
    split at p
    · rename_i xs e
      obtain ⟨a, us, rfl, q, r⟩ := seqOf_rep S r e
      exact ⟨a, us, rfl, q, fun l hl => p _ (ρ.add l) _ (Evo.push hl) (lst_push S hl r) (loc_new S)⟩
    · exact p.elim
  · exact p.elim
theorem cm_tuple : ClM C E (fun xs H Q => ∃ p ys, xs = [.ref p] ∧ ((SqL C.K H p ys ∧ ∀ l, H l = none → Q (.ref l) (upd H l (.tup ys))) ∨ (SqT C.K H p ys ∧ Q (.ref p) H))) tupF := by
  intro H ρ st vs ws Q S rs p
  unfold tupF at p
  split at p
  · obtain ⟨v, rfl, r⟩ := rs.one
    split at p
    · rename_i xs e
      obtain ⟨a, us, rfl, q, r⟩ := seqOf_rep S r e
      refine ⟨a, us, rfl, ?_⟩
      rcases q with q | q
      · exact .inl ⟨q, fun l hl => p _ ρ _ (Evo.laid hl) (S.laid hl) (tup_new S hl r)⟩
      · exact .inr ⟨q, p H ρ _ (Evo.refl ..) S (.tup q r)⟩
    · exact p.elim
  · exact p.elim
/-- isinstance(x, T) of a built-in type -/
inductive Ty where
  | non | bl | int | str | tup | lst
def Ty.nm : Ty → String
  | .non => "NoneType" | .bl => "bool" | .int => "int" | .str => "str" | .tup => "tuple" | .lst => "list"
def Ty.le : Ty → Ty → Bool
  | .bl, .bl => true | .bl, .int => true | .int, .int => true | .str, .str => true | .tup, .tup => true | .lst, .lst => true | .non, .non => true | _, _ => false
theorem Ty.kit (a b : Ty) (hb : b ≠ .non) : kitB a.nm b.nm = some (a.le b) := by
  cases b with
  | non => exact absurd rfl hb
  | _ => cases a <;> decide +kernel
def tyOf (s : Sto) (w : W) : Option Ty := match w with
  | .non => some .non
  | .bl _ => some .bl
  | .int _ => some .int
  | .str _ => some .str
  | .tup _ => some .tup
  | .fl _ => some .lst
  | .kl _ => some .lst
  | .loc l => match s[l]? with
    | some (.lst _) => some .lst
    | _ => none
  | .raw _ => none
theorem tyOf_rep {H : Hp} {ρ : Pl} {st : Sto} {v : V} {w : W} {t : Ty} (S : RelS C H ρ st) (r : Rep C.K H ρ st v w) (h : tyOf st w = some t) : TyX C.K H v (.type t.nm) := by
  unfold tyOf at h
  cases r with
  | non => cases h; exact .base .non
  | bl b => cases h; exact .base (.bl b)
  | int i => cases h; exact .base (.int i)
  | str x => cases h; exact .base (.str x)
  | raw v => cases h
  | tup q r =>
    cases h
    rcases q with (q | ⟨o, q⟩) | ⟨o, its, n, q, cq, _⟩
    · exact .base (.tup q)
    · exact .fTuple q
    · exact .kTuple q cq
  | fl q n r => cases h; exact .base (.lst q)
  | kl q r =>
    cases h
    rcases q with ⟨q, _⟩ | ⟨o, q⟩ | (q | ⟨o, q⟩) | ⟨o, its, n, q, cq, _⟩
    · exact .base (.lst q)
    · exact .base (.frz q)
    · cases q
    · cases q
    · exact .kList q cq
  | @loc a l q =>
    simp only at h
    split at h
    · rename_i ws e
      cases h
      obtain ⟨vs, z, _⟩ := S.obj _ a _ q e
      exact .base (.lst z)
    · cases h
def isiW (T : Ty) (x : W) (s : Sto) : R W := match tyOf s x with
  | some t => .ok (.bl (t.le T)) s
  | none => .no
theorem me_isi {T : Ty} {p : Pos} {c : Expr} (hT : T ≠ .non) (hK : C.K = X.K) (ha : ME X C E a ma) (hc : PE X c (tC (.ty T.nm))) (hg : Gl X "isinstance") (hm : X.mg "isinstance" = none)
    (he : starEach [a, c] X.env = (false, eval a X.env) :: starEach [c] X.env := by rfl) (he2 : starEach [c] X.env = (false, eval c X.env) :: starEach [] X.env := by rfl) (hpl : (backTo pos (starEach [c] X.env)).any (·.1) = false := by rfl) :
    ME X C E (.Call (.Name "isinstance" p) [a, c] [] pos) (un (isiW T) ma) := by
  refine PE.imp (pe_callB call_isi hg hm (by decide +kernel) (pa_cons ha (pa_cons hc pa_nil he2) he) (by decide) (by decide) he hpl) fun σ H Q ⟨ρ, st, env, re, S, p⟩ => ⟨ρ, st, env, re, S, Post.bind p fun x s1 H1 ρ1 v _ e1 S1 r1 p1 => ?_⟩
  unfold isiW at p1
  split at p1
  · rename_i t ht
    exact ⟨v, .ty T.nm, .type t.nm, .type T.nm, t.le T, rfl, .ty _, hK ▸ tyOf_rep S1 r1 ht, kit_ty (Ty.kit t T hT), p1 H1 ρ1 _ (Evo.refl ..) S1 (.bl _)⟩
  · exact p1.elim

/-! ### items and slices -/
def ixW (x i : W) (s : Sto) : R W := match seqOf s x, i with
  | some ws, .int i => match atI ws i with
    | some w => .ok w s
    | none => .no
  | _, _ => .no
def rIxU (K : PySem.W.Frag) : R2 := fun x y H Q => rIxL K x y H Q ∨ rIxT K x y H Q
theorem or_ix : IxR X (rIxU X.K) := ix_list.or ix_tup
theorem atI_rep {K : PySem.W.Frag} {H : Hp} {ρ : Pl} {st : Sto} {vs : List V} {ws : List W} {i : Int} {w : W} (r : RepL K H ρ st vs ws) (h : atI ws i = some w) : ∃ v, atI vs i = some v ∧ Rep K H ρ st v w := by
  unfold atI at h ⊢
  rw [Option.bind_eq_some_iff] at h
  obtain ⟨j, e, q⟩ := h
  rw [r.length, e]
  exact r.get q
theorem om_ix : OpM C E (rIxU C.K) ixW := by
  intro H ρ st v u x y Q S rx ry p
  unfold ixW at p
  split at p
  · rename_i ws i e
    cases ry
    split at p
    · rename_i w h
      obtain ⟨a, vs, rfl, q, r⟩ := seqOf_rep S rx e
      obtain ⟨vv, h1, h2⟩ := atI_rep r h
      rcases q with q | q
      · exact .inl ⟨a, vs, _, vv, rfl, rfl, q, h1, p H ρ _ (Evo.refl ..) S h2⟩
      · exact .inr ⟨a, vs, _, vv, rfl, rfl, q, h1, p H ρ _ (Evo.refl ..) S h2⟩
    · exact p.elim
  · exact p.elim
theorem me_ix (hK : C.K = X.K) (ha : ME X C E a ma) (hb : ME X C E b mb) (hs : PlainIx b := by intro _ _; rfl) : ME X C E (.Subscript a b pos) (bn ixW ma mb) :=
  PE.imp (pe_ix or_ix ha hb hs) fun _ _ _ h => tOp_of (r := rIxU X.K) (hK ▸ om_ix) h
def cutL {α : Type} (xs : List α) (lo hi : Option Int) : List α := (xs.drop (HT.sIx xs.length 0 lo)).take (HT.sIx xs.length xs.length hi - HT.sIx xs.length 0 lo)
theorem cutL_rep {K : PySem.W.Frag} {H : Hp} {ρ : Pl} {st : Sto} {vs : List V} {ws : List W} (r : RepL K H ρ st vs ws) (lo hi : Option Int) : RepL K H ρ st (cutV vs lo hi) (cutL ws lo hi) := by
  unfold cutV cutL
  rw [r.length]
  exact (r.drop _).take _
abbrev Ox := En → Sto → R (Option Int)
def oxn : Ox := fun _ st => .ok none st
def oxs (a : Ex) : Ox := fun env st => (a env st).bind fun x s => match x with
  | .int i => .ok (some i) s
  | _ => .no
def tMO (C : MC) (E : XK) (m : Ox) : TO := fun σ H Q => ∃ ρ st env, RelE C.K H ρ st σ env ∧ RelS C H ρ st ∧ Post relI C E H ρ st (m env st) Q
def MO (X : Cx) (C : MC) (E : XK) (e : Option Expr) (m : Ox) : Prop := PO X e (tMO C E m)
theorem mo_none : MO X C E none oxn := ⟨fun pins s σ H Q I ⟨ρ, st, env, re, S, p⟩ => po_none.run pins s σ H Q I (p H ρ none (Evo.refl ..) S rfl)⟩
theorem mo_some (h : ME X C E a ma) : MO X C E (some a) (oxs ma) := by
  refine ⟨fun pins s σ H Q I ⟨ρ, st, env, re, S, p⟩ => (po_some h).run pins s σ H Q I ⟨ρ, st, env, re, S, Post.bind p fun x s1 H1 ρ1 v _ e1 S1 r1 p1 => ?_⟩⟩
  cases x with
  | int i => cases r1; exact ⟨i, rfl, p1 H1 ρ1 (some i) (Evo.refl ..) S1 rfl⟩
  | _ => exact p1.elim
/-- what a slice gives: a list that stays, one with a place, a tuple -/
def slF (x : W) (lo hi : Option Int) (s : Sto) : R W := match x with
  | .tup ws => if HT.sIx ws.length 0 lo = 0 ∧ HT.sIx ws.length ws.length hi = ws.length then .no else .ok (.tup (cutL ws lo hi)) s
  | x => match lstK s x with
    | some ws => .ok (.fl (cutL ws lo hi)) s
    | none => .no
def slLF (x : W) (lo hi : Option Int) (s : Sto) : R W := match lstK s x with
  | some ws => .ok (.loc s.length) (s ++ [.lst (cutL ws lo hi)])
  | none => .no
def slE (f : W → Option Int → Option Int → Sto → R W) (a : Ex) (lo hi : Ox) : Ex := fun env st => (a env st).bind fun x s1 => (lo env s1).bind fun l s2 => (hi env s2).bind fun h s3 => f x l h s3
def SlM (C : MC) (E : XK) (r : V → Option Int → Option Int → Hp → VK → Prop) (f : W → Option Int → Option Int → Sto → R W) : Prop := ∀ (H : Hp) (ρ : Pl) (st : Sto) (v : V) (x : W) (lo hi : Option Int) (Q : VK),
  RelS C H ρ st → Rep C.K H ρ st v x → Post (relW C) C E H ρ st (f x lo hi st) Q → r v lo hi H Q
def rSlU (K : PySem.W.Frag) : V → Option Int → Option Int → Hp → VK → Prop := fun x lo hi H Q => rSlL K x lo hi H Q ∨ rSlT K x lo hi H Q
theorem or_sl : SlR X (rSlU X.K) := sl_list.or sl_tup
theorem sm_sl : SlM C E (rSlU C.K) slF := by
  intro H ρ st v x lo hi Q S rx p
  unfold slF at p
  split at p
  · cases rx with
    | tup h1 h2 =>
      split at p
      · exact p.elim
      · rename_i h
        exact .inr ⟨_, _, rfl, h1, by rw [h2.length]; exact h, fun q hq => p _ ρ _ (Evo.laid hq) (S.laid hq) (tup_new S hq (cutL_rep h2 lo hi))⟩
  · split at p
    · rename_i ws e
      obtain ⟨a, vs, rfl, q, r⟩ := lstK_rep S rx e
      exact .inl ⟨a, vs, rfl, q, fun q hq => p _ ρ _ (Evo.laid hq) (S.laid hq) (fl_new S hq (cutL_rep r lo hi))⟩
    · exact p.elim
theorem sm_slL : SlM C E (rSlU C.K) slLF := by
  intro H ρ st v x lo hi Q S rx p
  unfold slLF at p
  split at p
  · rename_i ws e
    obtain ⟨a, vs, rfl, q, r⟩ := lstK_rep S rx e
    exact .inl ⟨a, vs, rfl, q, fun q hq => p _ (ρ.add q) _ (Evo.push hq) (lst_push S hq (cutL_rep r lo hi)) (loc_new S)⟩
  · exact p.elim
theorem me_sl {lo hi : Option Expr} {ml mh : Ox} {p2 : Pos} {f : W → Option Int → Option Int → Sto → R W} (hK : C.K = X.K) (hf : SlM C E (rSlU C.K) f) (ha : ME X C E a ma) (hl : MO X C E lo ml) (hh : MO X C E hi mh) : ME X C E (.Subscript a (.Slice lo hi none p2) pos) (slE f ma ml mh) := by
  refine PE.imp (pe_slice or_sl ha hl hh) fun σ H Q ⟨ρ, st, env, re, S, p⟩ => ⟨ρ, st, env, re, S, Post.bind p fun x s1 H1 ρ1 v _ e1 S1 r1 p1 => ?_⟩
  have re1 := re.evo e1 S.liv
  refine ⟨ρ1, s1, env, re1, S1, Post.bind (rel := relI) p1 fun l s2 H2 ρ2 vl _ e2 S2 r2 p2 => ?_⟩
  refine ⟨ρ2, s2, env, re1.evo e2 S1.liv, S2, Post.bind (rel := relI) p2 fun h s3 H3 ρ3 vh _ e3 S3 r3 p3 => ?_⟩
  have r2 : vl = l := r2
  have r3 : vh = h := r3
  subst r2; subst r3
  rw [← hK]
  exact hf H3 ρ3 s3 v x vl vh Q S3 ((r1.evo e2 S1.liv).evo e3 S2.liv) p3

/-! ### methods of lists -/
def MtW (C : MC) (E : XK) (r : V → List V → Hp → VK → Prop) (f : W → List W → Sto → R W) : Prop := ∀ (H : Hp) (ρ : Pl) (st : Sto) (v : V) (vs : List V) (x : W) (ws : List W) (Q : VK),
  RelS C H ρ st → Rep C.K H ρ st v x → RepL C.K H ρ st vs ws → Post (relW C) C E H ρ st (f x ws st) Q → r v vs H Q
/-- o.m(..), o a list -/
def lmE (f : W → List W → Sto → R W) (o : Ex) (m : Ax) : Ex := fun env st => (o env st).bind fun x s1 => match lstK s1 x with
  | some _ => (m env s1).bind fun ws s2 => f x ws s2
  | none => .no
section
variable {name : Str} {apos cpos : Pos} {id : String} {r : V → List V → Hp → VK → Prop} {f : W → List W → Sto → R W}
theorem me_lm (hK : C.K = X.K) (hf : MtW C E r f) (slot : Slot "list" name id) (hty : typeOf (.builtin id) = pure (.type "method_descriptor")) (hm : MtR X id r) (ho : ME X C E o mo) (ha : MA' X C E (e :: es) mr)
    (hbase : attributeBase o name X.env (eval o X.env) = eval o X.env := by rfl)
    (hfew : ((backTo cpos (starEach (e :: es) X.env)).all (fun x => !x.1) && (backToKw cpos (keywordEach [] X.env)).all (fun x => x.1.isSome)
      && decide ((e :: es).length + ([] : List Keyword).length + (if ([] : List Keyword).isEmpty then 0 else 1) < 30)) = true := by rfl)
    (hline : (apos.endLine == cpos.line) = true := by rfl) (hs : starEach (e :: es) X.env = (false, eval e X.env) :: starEach es X.env := by rfl) (hplain : (backTo cpos (starEach es X.env)).any (·.1) = false := by rfl) :
    ME X C E (.Call (.Attribute o name apos) (e :: es) [] cpos) (lmE f mo mr) := by
  refine PE.imp (pe_bm PySem.F.plainAttrs_list slot hty hm ho ha.pa hbase hfew hline hs hplain) fun σ H Q ⟨ρ, st, env, re, S, p⟩ => ⟨ρ, st, env, re, S, Post.bind p fun x s1 H1 ρ1 v _ e1 S1 r1 p1 => ?_⟩
  split at p1
  · rename_i zs ez
    obtain ⟨a, vs, rfl, q, r⟩ := lstK_rep S1 r1 ez
    refine ⟨.inl ⟨rfl, vs, hK ▸ q⟩, ?_⟩
    refine ⟨ρ1, s1, env, re.evo e1 S.liv, S1, Post.bind p1 fun l s2 H2 ρ2 vl _ e2 S2 r2 p2 => ?_⟩
    exact hf H2 ρ2 s2 _ vl x l Q S2 (r1.evo e2 S1.liv) r2 p2
  · exact p1.elim
theorem me_lm0 (hK : C.K = X.K) (hf : MtW C E r f) (slot : Slot "list" name id) (hty : typeOf (.builtin id) = pure (.type "method_descriptor")) (hm : MtR X id r) (ho : ME X C E o mo)
    (hbase : attributeBase o name X.env (eval o X.env) = eval o X.env := by rfl) (hline : (apos.endLine == cpos.line) = true := by rfl) :
    ME X C E (.Call (.Attribute o name apos) [] [] cpos) (lmE f mo axn) := by
  refine PE.imp (pe_bm0 PySem.F.plainAttrs_list slot hty hm ho hbase hline) fun σ H Q ⟨ρ, st, env, re, S, p⟩ => ⟨ρ, st, env, re, S, Post.bind p fun x s1 H1 ρ1 v _ e1 S1 r1 p1 => ?_⟩
  split at p1
  · rename_i zs ez
    obtain ⟨a, vs, rfl, q, r⟩ := lstK_rep S1 r1 ez
    exact ⟨.inl ⟨rfl, vs, hK ▸ q⟩, hf H1 ρ1 s1 _ [] x [] Q S1 r1 .nil p1⟩
  · exact p1.elim
end
theorem lst_write {H : Hp} {ρ : Pl} {st : Sto} {l : Nat} {a : Addr} {vs : List V} {ws us : List W} (S : RelS C H ρ st) (h : ρ.pl[l]? = some a) (e : st[l]? = some (.lst us)) (r : RepL C.K H ρ st vs ws) :
    Evo H ρ st (upd H a (.lst vs)) ρ (st.set l (.lst ws)) ∧ RelS C (upd H a (.lst vs)) ρ (st.set l (.lst ws)) :=
  have ev : Evo H ρ st (upd H a (.lst vs)) ρ (st.set l (.lst ws)) := Evo.write h e (fun z => nomatch z)
  ⟨ev, S.write h e (fun z => nomatch z) ⟨vs, upd_same, r.evo ev S.liv⟩⟩
def appF (x : W) (ws : List W) (s : Sto) : R W := match x, ws with
  | .loc l, [w] => match s[l]? with
    | some (.lst xs) => if ck (xs.length < 10000000) = true then .ok .non (s.set l (.lst (xs ++ [w]))) else .no
    | _ => .no
  | _, _ => .no
theorem mm_append : MtW C E rAppend appF := by
  intro H ρ st v vs x ws Q S rx rs p
  unfold appF at p
  split at p
  · cases rx with
    | @loc a l q =>
      obtain ⟨u, rfl, ru⟩ := rs.one
      split at p
      · rename_i xs e
        split at p
        · rename_i hl
          obtain ⟨zs, hz, rz⟩ := S.obj _ a _ q e
          obtain ⟨ev, S'⟩ := lst_write S q e (rz.append (.cons ru .nil))
          exact ⟨a, zs, u, rfl, rfl, hz, by rw [rz.length]; exact Nat.lt_of_lt_of_le (ck_iff.mp hl) (by decide), p _ ρ _ ev S' .non⟩
        · exact p.elim
      · exact p.elim
  · exact p.elim
def extF (x : W) (ws : List W) (s : Sto) : R W := match x, ws with
  | .loc l, [w] => match s[l]?, lstOf s w with
    | some (.lst xs), some ys => if ck (xs.length + ys.length ≤ 10000000) = true then .ok .non (s.set l (.lst (xs ++ ys))) else .no
    | _, _ => .no
  | _, _ => .no
theorem mm_extend : MtW C E rExtend extF := by
  intro H ρ st v vs x ws Q S rx rs p
  unfold extF at p
  split at p
  · cases rx with
    | @loc a l q =>
      obtain ⟨u, rfl, ru⟩ := rs.one
      split at p
      · rename_i xs ys e ey
        split at p
        · rename_i hl
          obtain ⟨zs, hz, rz⟩ := S.obj _ a _ q e
          obtain ⟨b, us, rfl, hb, rb⟩ := lstOf_rep S ru ey
          obtain ⟨ev, S'⟩ := lst_write S q e (rz.append rb)
          exact ⟨a, b, zs, us, rfl, rfl, hz, hb, by rw [rz.length, rb.length]; exact szL (ck_iff.mp hl), p _ ρ _ ev S' .non⟩
        · exact p.elim
      · exact p.elim
  · exact p.elim
def popF (x : W) (ws : List W) (s : Sto) : R W := match x, ws with
  | .loc l, [] => match s[l]? with
    | some (.lst xs) => match xs[xs.length - 1]? with
      | some y => .ok y (s.set l (.lst xs.dropLast))
      | none => .no
    | _ => .no
  | _, _ => .no
theorem mm_pop : MtW C E rPop popF := by
  intro H ρ st v vs x ws Q S rx rs p
  unfold popF at p
  split at p
  · cases rx with
    | @loc a l q =>
      cases rs
      split at p
      · rename_i xs e
        split at p
        · rename_i y hy
          obtain ⟨zs, hz, rz⟩ := S.obj _ a _ q e
          obtain ⟨u, hu, ru⟩ := rz.get hy
          obtain ⟨ev, S'⟩ := lst_write S q e rz.dropLast
          exact ⟨a, zs, u, rfl, rfl, hz, by rw [rz.length]; exact hu, p _ ρ _ ev S' (ru.evo ev S.liv)⟩
        · exact p.elim
      · exact p.elim
  · exact p.elim
end
end ML

/-! ML4: calls, fields, statements, loops, defs -/
namespace ML
open PySem L2
noncomputable section

/-! ### a def's promise -/
/-- called with what ws reads as, it gives what d gives; no exception leaves it -/
def sp0 (C : MC) (n : Nat) (d : List W → Sto → R W) : Sp := fun vs H Q _ => vs.length = n ∧ ∃ ρ st ws, RepL C.K H ρ st vs ws ∧ RelS C H ρ st ∧ Post (relW C) C E0 H ρ st (d ws st) Q
section
variable {X : Cx} {C : MC} {a b c e o : Expr} {ma mb mc mo : Ex} {pos : Pos} {es : List Expr} {mr : Ax}
variable {k : Nat} {f : Addr} {fd : FuncData} {ps : List Str} {x m : Str} {p apos : Pos} {d : List W → Sto → R W}
theorem me_call {n : Nat} (F : FnOk X.prog X.w X.K X.mg X.base CX0 k f fd ps (sp0 C n d)) (hr : Room k X.A) (hg : Gl X x) (hm : X.mg x = some (.ref f)) (hk : PySem.W.keepIn X.K (.ref f) = true) (hb : Binds X.K fd ps []) (hn : (e :: es).length = n)
    (ha : MA' X C E0 (e :: es) mr) (hdb : (x == ("__debug__" : Str)) = false := by decide) (he : starEach (e :: es) X.env = (false, eval e X.env) :: starEach es X.env := by rfl) (hpl : (backTo pos (starEach es X.env)).any (·.1) = false := by rfl) :
    ME X C E0 (.Call (.Name x p) (e :: es) [] pos) (clE d mr) := by
  refine PE.imp (pe_call F hr hg hm hk hb .nil pass0 ha.pa hdb he hpl) fun σ H Q ⟨ρ, st, env, re, S, p⟩ => ⟨ρ, st, env, re, S, Post.bind p fun ws s1 H1 ρ1 vs hw e1 S1 r1 p1 => ?_⟩
  rw [List.append_nil]
  exact ⟨by rw [r1.length, ha.ln _ _ _ _ hw, hn], ρ1, s1, ws, r1, S1, p1⟩
theorem me_call0 (F : FnOk X.prog X.w X.K X.mg X.base CX0 k f fd ps (sp0 C 0 d)) (hr : Room k X.A) (hg : Gl X x) (hm : X.mg x = some (.ref f)) (hk : PySem.W.keepIn X.K (.ref f) = true) (hb : Binds X.K fd ps [])
    (hdb : (x == ("__debug__" : Str)) = false := by decide) : ME X C E0 (.Call (.Name x p) [] [] pos) (clE d axn) := by
  refine PE.imp (pe_call0 F hr hg hm hk hb .nil pass0 hdb) fun σ H Q ⟨ρ, st, env, re, S, p⟩ => ?_
  exact ⟨rfl, ρ, st, [], .nil, S, p⟩
/-- an instance of the c-th class -/
def isIns (c : Nat) (w : W) (s : Sto) : Bool := match w with
  | .loc l => match s[l]? with
    | some (.ins c' _) => c' == c
    | _ => false
  | _ => false
def mthE (c : Nat) (d : List W → Sto → R W) (o : Ex) (m : Ax) : Ex := fun env st => (o env st).bind fun x s1 => if isIns c x s1 = true then (m env s1).bind fun ws s2 => d (x :: ws) s2 else .no
theorem isIns_rep {H : Hp} {ρ : Pl} {st : Sto} {v : V} {w : W} {c : Nat} {Cd : Addr} {nm : List Str} (S : RelS C H ρ st) (r : Rep C.K H ρ st v w) (hc : C.cls[c]? = some (Cd, nm)) (h : isIns c w st = true) :
    ∃ l a dx fs fvs, w = .loc l ∧ v = .ref a ∧ ρ.pl[l]? = some a ∧ st[l]? = some (.ins c fs) ∧ H a = some (.ins Cd dx fvs) ∧ RepF C H ρ st nm fvs fs := by
  unfold isIns at h
  split at h
  · rename_i l
    split at h
    · rename_i c' fs e
      have e2 : c' = c := by simpa using h
      subst e2
      cases r with
      | @loc a l q =>
        obtain ⟨Cd', nm', dx, fvs, q1, q2, q3⟩ := S.obj _ a _ q e
        rw [hc] at q1; cases q1
        exact ⟨_, a, dx, fs, fvs, rfl, rfl, q, e, q2, q3⟩
    · cases h
  · cases h
theorem RepF.none {H : Hp} {ρ : Pl} {st : Sto} {nm : List Str} {fvs : List (Str × V)} {fs : List (Option W)} (h : RepF C H ρ st nm fvs fs) {m : Str} (hm : m ∉ nm) : fvs.lookup m = none := by
  cases e : fvs.lookup m with
  | none => rfl
  | some v =>
    refine absurd (h.2.2.2 m ?_) hm
    have : ∀ {l : List (Str × V)}, l.lookup m = some v → m ∈ l.map (·.1) := by
      intro l
      induction l with
      | nil => intro z; cases z
      | cons y ys ih =>
        intro z
        rw [List.lookup_cons] at z
        cases q : m == y.1 with
        | true => rw [beq_iff_eq.mp q]; exact List.mem_cons_self
        | false => rw [q] at z; exact List.mem_cons_of_mem _ (ih z)
    exact this e
/-- o.m(..) -/
theorem me_meth {n c : Nat} {Cd : Addr} {nm : List Str} {pl : Sem Bool} (ho : ME X C E0 o mo) (hc : C.cls[c]? = some (Cd, nm)) (hmn : m ∉ nm) (cl : Cls X.K Cd) (hm : Meth X.K Cd m f) (F : FnOk X.prog X.w X.K X.mg X.base CX0 k f fd ps (sp0 C (n + 1) d)) (hr : Room k X.A) (hb : Binds X.K fd ps [])
    (hn : (e :: es).length = n) (ha : MA' X C E0 (e :: es) mr)
    (hst : starEach (e :: es) X.env = (false, eval e X.env) :: starEach es X.env := by rfl) (hpl : (backTo pos (starEach es X.env)).any (·.1) = false := by rfl)
    (ht : eval (.Call (.Attribute o m apos) (e :: es) [] pos) X.env = (do
      let ov ← eval o X.env
      standAt apos.atName
      let (f, first) ← holding [ov] (getMethod ov m pl)
      callWith pos f first (backTo pos (starEach (e :: es) X.env)) (backToKw pos (keywordEach [] X.env))) := by rfl) :
    ME X C E0 (.Call (.Attribute o m apos) (e :: es) [] pos) (mthE c d mo mr) := by
  refine PE.imp (pe_meth (pl := pl) ho cl hm F hr hb .nil pass0 ha.pa hst hpl ht) fun σ H Q ⟨ρ, st, env, re, S, p⟩ => ⟨ρ, st, env, re, S, Post.bind p fun x s1 H1 ρ1 v hx e1 S1 r1 p1 => ?_⟩
  split at p1
  · rename_i hi
    obtain ⟨l, a, dx, fs, fvs, rfl, rfl, q1, q2, q3, q4⟩ := isIns_rep S1 r1 hc hi
    refine ⟨a, dx, fvs, rfl, q3, q4.none hmn, ?_⟩
    refine ⟨ρ1, s1, env, re.evo e1 S.liv, S1, Post.bind p1 fun ws s2 H2 ρ2 vs hw e2 S2 r2 p2 => ?_⟩
    rw [List.append_nil]
    exact ⟨by rw [List.length_cons, r2.length, ha.ln _ _ _ _ hw, hn], ρ2, s2, _, .cons (r1.evo e2 S1.liv) r2, S2, p2⟩
  · exact p1.elim
theorem me_meth0 {c : Nat} {Cd : Addr} {nm : List Str} {pl : Sem Bool} (ho : ME X C E0 o mo) (hc : C.cls[c]? = some (Cd, nm)) (hmn : m ∉ nm) (cl : Cls X.K Cd) (hm : Meth X.K Cd m f) (F : FnOk X.prog X.w X.K X.mg X.base CX0 k f fd ps (sp0 C 1 d)) (hr : Room k X.A) (hb : Binds X.K fd ps [])
    (ht : eval (.Call (.Attribute o m apos) [] [] pos) X.env = (do
      let ov ← eval o X.env
      standAt apos.atName
      let (f, first) ← holding [ov] (getMethod ov m pl)
      callWith pos f first (backTo pos (starEach [] X.env)) (backToKw pos (keywordEach [] X.env))) := by rfl) :
    ME X C E0 (.Call (.Attribute o m apos) [] [] pos) (mthE c d mo axn) := by
  refine PE.imp (L2.pe_meth0 (pl := pl) ho cl hm F hr hb .nil pass0 ht) fun σ H Q ⟨ρ, st, env, re, S, p⟩ => ⟨ρ, st, env, re, S, Post.bind p fun x s1 H1 ρ1 v hx e1 S1 r1 p1 => ?_⟩
  split at p1
  · rename_i hi
    obtain ⟨l, a, dx, fs, fvs, rfl, rfl, q1, q2, q3, q4⟩ := isIns_rep S1 r1 hc hi
    exact ⟨a, dx, fvs, rfl, q3, q4.none hmn, rfl, ρ1, s1, [.loc l], .cons r1 .nil, S1, p1⟩
  · exact p1.elim

/-- C(..) -/
def mkE (c nf : Nat) (d : List W → Sto → R W) (m : Ax) : Ex := fun env st => (m env st).bind fun ws s1 => (d (.loc s1.length :: ws) (s1 ++ [.ins c (List.replicate nf none)])).bind fun r s2 => match r with
  | .non => .ok (.loc s1.length) s2
  | _ => .no
theorem ins_push {H : Hp} {ρ : Pl} {st : Sto} {q dq : Addr} {c : Nat} {Cd : Addr} {nm : List Str} (S : RelS C H ρ st) (hc : C.cls[c]? = some (Cd, nm)) (hq : H q = none) (hd : H dq = none) (ne : dq ≠ q) :
    Evo H ρ st (upd (upd H dq (.own q)) q (.ins Cd dq [])) (ρ.add q) (st ++ [.ins c (List.replicate nm.length none)]) ∧ RelS C (upd (upd H dq (.own q)) q (.ins Cd dq [])) (ρ.add q) (st ++ [.ins c (List.replicate nm.length none)]) := by
  have S1 : RelS C (upd H dq (.own q)) ρ st := S.laid hd
  have hq1 : upd H dq (.own q) q = none := by rw [upd_ne (Ne.symm ne)]; exact hq
  refine ⟨(Evo.laid hd).trans (Evo.push hq1), S1.push hq1 ⟨Cd, nm, dq, [], hc, upd_same, by simp, fun i f w h1 h2 => ?_, by simp, by simp⟩⟩
  rw [List.getElem?_replicate] at h2
  split at h2 <;> cases h2
theorem make_of {H1 : Hp} {ρ1 : Pl} {s1 : Sto} {n c : Nat} {Cd : Addr} {nm : List Str} {Q : VK} {vs : List V} {ws : List W} (hc : C.cls[c]? = some (Cd, nm)) (S1 : RelS C H1 ρ1 s1) (r1 : RepL C.K H1 ρ1 s1 vs ws) (hl : vs.length = n)
    (p1 : Post (relW C) C E0 H1 ρ1 s1 ((d (.loc s1.length :: ws) (s1 ++ [.ins c (List.replicate nm.length none)])).bind fun r s2 => match r with
      | .non => .ok (.loc s1.length) s2
      | _ => .no) Q) : ∀ x dx, H1 x = none → H1 dx = none → dx ≠ x → sp0 C (n + 1) d (.ref x :: (vs ++ [])) (upd (upd H1 dx (.own x)) x (.ins Cd dx [])) (fun v H2 => v = .non ∧ Q (.ref x) H2) E0 := by
  intro q dq hq hd ne
  obtain ⟨ev, S2⟩ := ins_push (c := c) S1 hc hq hd ne
  have rl : Rep C.K (upd (upd H1 dq (.own q)) q (.ins Cd dq [])) (ρ1.add q) (s1 ++ [.ins c (List.replicate nm.length none)]) (.ref q) (.loc s1.length) := .loc (by rw [← S1.len]; exact add_new)
  rw [List.append_nil]
  refine ⟨by rw [List.length_cons, hl], _, _, _, .cons rl (r1.evo ev S1.liv), S2, Post.bind (rel' := relW C) (Post.shift p1 ev) fun w s2 H2 ρ2 v hw e2 S3 r3 p2 => ?_⟩
  cases w with
  | non => cases r3; exact ⟨rfl, p2 H2 ρ2 _ (Evo.refl ..) S3 (rl.evo e2 S2.liv)⟩
  | _ => exact p2.elim
theorem me_make {n c : Nat} {Cd : Addr} {nm : List Str} (hc : C.cls[c]? = some (Cd, nm)) (M : Mk X.K Cd f) (F : FnOk X.prog X.w X.K X.mg X.base CX0 k f fd ps (sp0 C (n + 1) d)) (hr : Room (k + 1) X.A) (hg : Gl X x) (hm : X.mg x = some (.ref Cd)) (hb : Binds X.K fd ps [])
    (hn : (e :: es).length = n) (ha : MA' X C E0 (e :: es) mr) (hdb : (x == ("__debug__" : Str)) = false := by decide) (he : starEach (e :: es) X.env = (false, eval e X.env) :: starEach es X.env := by rfl) (hpl : (backTo pos (starEach es X.env)).any (·.1) = false := by rfl) :
    ME X C E0 (.Call (.Name x p) (e :: es) [] pos) (mkE c nm.length d mr) := by
  refine PE.imp (pe_make M F hr hg hm hb .nil pass0 ha.pa hdb he hpl) fun σ H Q ⟨ρ, st, env, re, S, p⟩ => ⟨ρ, st, env, re, S, Post.bind p fun ws s1 H1 ρ1 vs hw e1 S1 r1 p1 => ?_⟩
  exact make_of hc S1 r1 (by rw [r1.length, ha.ln _ _ _ _ hw, hn]) p1
theorem me_make0 {c : Nat} {Cd : Addr} {nm : List Str} (hc : C.cls[c]? = some (Cd, nm)) (M : Mk X.K Cd f) (F : FnOk X.prog X.w X.K X.mg X.base CX0 k f fd ps (sp0 C 1 d)) (hr : Room (k + 1) X.A) (hg : Gl X x) (hm : X.mg x = some (.ref Cd)) (hb : Binds X.K fd ps [])
    (hdb : (x == ("__debug__" : Str)) = false := by decide) : ME X C E0 (.Call (.Name x p) [] [] pos) (mkE c nm.length d axn) := by
  refine PE.imp (pe_make0 M F hr hg hm hb .nil pass0 hdb) fun σ H Q ⟨ρ, st, env, re, S, p⟩ => ?_
  exact make_of (vs := []) hc S .nil rfl p
end

section
variable {X : Cx} {C : MC} {E : XK} {a b c e o value : Expr} {ma mb mc mo mv : Ex} {pos pos' tpos : Pos} {es : List Expr} {mr : Ax}
/-! ### fields -/
def fldW (c j : Nat) (x : W) (s : Sto) : R W := match x with
  | .loc l => match s[l]? with
    | some (.ins c' fs) => if c' = c then (match fs[j]? with
      | some (some w) => .ok w s
      | _ => .no) else .no
    | _ => .no
  | _ => .no
theorem me_fld {c j : Nat} {Cd : Addr} {nm : List Str} {f : Str} (hK : C.K = X.K) (hc : C.cls[c]? = some (Cd, nm)) (hj : nm[j]? = some f) (cl : Cls X.K Cd) (na : NoAttr X.K Cd f) (ho : ME X C E o mo) (hb : attributeBase o f X.env (eval o X.env) = eval o X.env := by rfl) :
    ME X C E (.Attribute o f pos) (un (fldW c j) mo) := by
  refine PE.imp (pe_fld ho hb) fun σ H Q ⟨ρ, st, env, re, S, p⟩ => ⟨ρ, st, env, re, S, Post.bind p fun x s1 H1 ρ1 v hx e1 S1 r1 p1 => ?_⟩
  unfold fldW at p1
  split at p1
  · split at p1
    · rename_i c' fs e
      split at p1
      · rename_i ec
        subst ec
        split at p1
        · rename_i w ew
          cases r1 with
          | @loc a l q =>
            obtain ⟨Cd', nm', dx, fvs, q1, q2, q3⟩ := S1.obj _ a _ q e
            rw [hc] at q1; cases q1
            obtain ⟨vv, l1, l2⟩ := q3.2.1 j f w hj ew
            exact ⟨a, Cd, dx, fvs, vv, rfl, q2, cl, na, l1, p1 H1 ρ1 _ (Evo.refl ..) S1 l2⟩
        · exact p1.elim
      · exact p1.elim
    · exact p1.elim
  · exact p1.elim
theorem RepF.put {H : Hp} {ρ : Pl} {st : Sto} {nm : List Str} {fvs : List (Str × V)} {fs : List (Option W)} (h : RepF C H ρ st nm fvs fs) (nd : nm.Nodup) {j : Nat} {f : Str} (hj : nm[j]? = some f) {v : V} {w : W} (r : Rep C.K H ρ st v w) :
    RepF C H ρ st nm (putF f v fvs) (fs.set j (some w)) := by
  refine ⟨by rw [List.length_set]; exact h.1, fun i g x h1 h2 => ?_, ?_, ?_⟩
  · rw [lookup_putF]
    by_cases z : j = i
    · subst z
      rw [hj] at h1; cases h1
      have hlt : j < fs.length := by
        have := (List.getElem?_eq_some_iff.mp h2).1
        simpa using this
      rw [List.getElem?_set_self hlt] at h2
      cases h2
      exact ⟨v, if_pos rfl, r⟩
    · rw [List.getElem?_set_ne z] at h2
      obtain ⟨u, q1, q2⟩ := h.2.1 i g x h1 h2
      have ne : g ≠ f := fun e => z (nd_ix nd hj (e ▸ h1))
      exact ⟨u, by rw [if_neg ne]; exact q1, q2⟩
  · have nd2 := h.2.2.1
    have key : ∀ l : List (Str × V), (l.map (·.1)).Nodup → ((putF f v l).map (·.1)).Nodup ∧ ∀ g, g ∈ (putF f v l).map (·.1) → g = f ∨ g ∈ l.map (·.1) := by
      intro l
      induction l with
      | nil => intro _; exact ⟨by simp [putF], fun g hg => .inl (by simpa [putF] using hg)⟩
      | cons y ys ih =>
        intro hn
        obtain ⟨k, u⟩ := y
        rw [List.map_cons, List.nodup_cons] at hn
        obtain ⟨i1, i2⟩ := ih hn.2
        show ((if k = f then (k, v) :: ys else (k, u) :: putF f v ys).map (·.1)).Nodup ∧ _
        by_cases z : k = f
        · subst z
          refine ⟨by rw [if_pos rfl, List.map_cons, List.nodup_cons]; exact hn, fun g hg => ?_⟩
          have hg' : g ∈ ((if k = k then (k, v) :: ys else (k, u) :: putF k v ys).map (·.1)) := hg
          rw [if_pos rfl] at hg'
          exact .inr hg'
        · refine ⟨?_, fun g hg => ?_⟩
          · rw [if_neg z, List.map_cons, List.nodup_cons]
            refine ⟨fun hm => ?_, i1⟩
            rcases i2 k hm with q | q
            · exact z q
            · exact hn.1 q
          · have hg' : g ∈ ((if k = f then (k, v) :: ys else (k, u) :: putF f v ys).map (·.1)) := hg
            rw [if_neg z, List.map_cons] at hg'
            rcases List.mem_cons.mp hg' with q | q
            · exact .inr (by rw [List.map_cons, q]; exact List.mem_cons_self)
            · rcases i2 g q with q | q
              · exact .inl q
              · exact .inr (by rw [List.map_cons]; exact List.mem_cons_of_mem _ q)
    exact (key fvs nd2).1
  · intro g hg
    have key : ∀ l : List (Str × V), ∀ g, g ∈ (putF f v l).map (·.1) → g = f ∨ g ∈ l.map (·.1) := by
      intro l
      induction l with
      | nil => intro g hg; exact .inl (by simpa [putF] using hg)
      | cons y ys ih =>
        intro g hg
        obtain ⟨k, u⟩ := y
        have hg' : g ∈ ((if k = f then (k, v) :: ys else (k, u) :: putF f v ys).map (·.1)) := hg
        by_cases z : k = f
        · rw [if_pos z, List.map_cons] at hg'
          rcases List.mem_cons.mp hg' with q | q
          · exact .inl (q.trans z)
          · exact .inr (List.mem_cons_of_mem _ q)
        · rw [if_neg z, List.map_cons] at hg'
          rcases List.mem_cons.mp hg' with q | q
          · exact .inr (by rw [List.map_cons, q]; exact List.mem_cons_self)
          · rcases ih g q with q | q
            · exact .inl q
            · exact .inr (List.mem_cons_of_mem _ q)
    rcases key fvs g hg with q | q
    · rw [q]; exact List.mem_of_getElem? hj
    · exact h.2.2.2 g q
theorem nodup_len : ∀ {l m : List Str}, l.Nodup → (∀ x ∈ l, x ∈ m) → l.length ≤ m.length := by
  intro l
  induction l with
  | nil => intro m _ _; simp
  | cons x xs ih =>
    intro m hn hs
    rw [List.nodup_cons] at hn
    have hx : x ∈ m := hs x List.mem_cons_self
    have h1 := ih (m := m.erase x) hn.2 fun y hy => by
      have hne : y ≠ x := fun e => hn.1 (e ▸ hy)
      exact (List.mem_erase_of_ne hne).mpr (hs y (List.mem_cons_of_mem _ hy))
    rw [List.length_erase_of_mem hx] at h1
    have : 0 < m.length := List.length_pos_of_mem hx
    simp only [List.length_cons]
    omega
theorem RepF.small {H : Hp} {ρ : Pl} {st : Sto} {nm : List Str} {fvs : List (Str × V)} {fs : List (Option W)} (h : RepF C H ρ st nm fvs fs) (hl : nm.length < 1000) : fvs.length < 1000 := by
  have := nodup_len h.2.2.1 h.2.2.2
  rw [List.length_map] at this
  omega
def passS : Sx := fun env st => .nx env st
def setFS (c j : Nat) (mo mv : Ex) : Sx := fun env st => (mv env st).toS fun w s1 => (mo env s1).toS fun x s2 => match x with
  | .loc l => match s2[l]? with
    | some (.ins c' fs) => if c' = c then .nx env (s2.set l (.ins c' (fs.set j (some w)))) else .no
    | _ => .no
  | _ => .no
theorem ins_write {H : Hp} {ρ : Pl} {st : Sto} {l c j : Nat} {a Cd dx : Addr} {nm : List Str} {f : Str} {fvs : List (Str × V)} {fs : List (Option W)} {v : V} {w : W} (S : RelS C H ρ st) (hc : C.cls[c]? = some (Cd, nm)) (nd : nm.Nodup) (hj : nm[j]? = some f)
    (h : ρ.pl[l]? = some a) (e : st[l]? = some (.ins c fs)) (q3 : RepF C H ρ st nm fvs fs) (r : Rep C.K H ρ st v w) :
    Evo H ρ st (upd H a (.ins Cd dx (putF f v fvs))) ρ (st.set l (.ins c (fs.set j (some w)))) ∧ RelS C (upd H a (.ins Cd dx (putF f v fvs))) ρ (st.set l (.ins c (fs.set j (some w)))) :=
  have ev : Evo H ρ st (upd H a (.ins Cd dx (putF f v fvs))) ρ (st.set l (.ins c (fs.set j (some w)))) := Evo.write h e (fun z => nomatch z)
  ⟨ev, S.write h e (fun z => nomatch z) ⟨Cd, nm, dx, _, hc, upd_same, (q3.put nd hj r).evo ev S.liv⟩⟩
theorem ms_fld {c j : Nat} {Cd : Addr} {nm : List Str} {f : Str} (hK : C.K = X.K) (hc : C.cls[c]? = some (Cd, nm)) (nd : nm.Nodup) (hl : nm.length < 1000) (hj : nm[j]? = some f) (cl : Cls X.K Cd) (na : NoAttr X.K Cd f) (ho : ME X C E o mo) (hv : ME X C E value mv)
    (hs : swapsWith value (some (.Attribute o f pos')) pos.line X.env = pure false := by rfl) : MS X C E (.Assign [.Attribute o f pos'] value pos) (setFS c j mo mv) := by
  refine PS.imp (ps_fld ho hv hs) fun D σ H ⟨ρ, st, env, re, S, p⟩ => ⟨ρ, st, env, re, S, PostS.bind p fun w s1 H1 ρ1 v hw e1 S1 r1 p1 => ?_⟩
  have re1 := re.evo e1 S.liv
  refine ⟨ρ1, s1, env, re1, S1, PostS.bind p1 fun x s2 H2 ρ2 u hx e2 S2 r2 p2 => ?_⟩
  have re2 := re1.evo e2 S1.liv
  split at p2
  · split at p2
    · rename_i c' fs es
      split at p2
      · rename_i ec
        subst ec
        cases r2 with
        | @loc a l q =>
          obtain ⟨Cd', nm', dx, fvs, q1, q2, q3⟩ := S2.obj _ a _ q es
          rw [hc] at q1; cases q1
          obtain ⟨ev, S3⟩ := ins_write (dx := dx) S2 hc nd hj q es q3 (r1.evo e2 S1.liv)
          exact ⟨a, Cd, dx, fvs, rfl, q2, cl, na, q3.small hl, p2 _ ρ2 σ ev S3 (re2.evo ev S2.liv)⟩
      · exact p2.elim
    · exact p2.elim
  · exact p2.elim
/-- o.f op= e; o.f read ahead of e -/
def augFS (c j : Nat) (f : W → W → Sto → R W) (mo mv : Ex) : Sx := fun env st => (mo env st).toS fun x s1 => (fldW c j x s1).toS fun y s2 => (mv env s2).toS fun w s3 => (f y w s3).toS fun z s4 => match x with
  | .loc l => match s4[l]? with
    | some (.ins c' fs) => if c' = c then .nx env (s4.set l (.ins c' (fs.set j (some z)))) else .no
    | _ => .no
  | _ => .no
theorem ms_fldaug {c j : Nat} {Cd : Addr} {nm : List Str} {f : Str} {op : Operator} {rd : V → V → Hp → VK → Prop} {g : W → W → Sto → R W} (hg : OpM C E rd g) (hop : InOp X op rd) (hK : C.K = X.K) (hc : C.cls[c]? = some (Cd, nm)) (nd : nm.Nodup) (hl : nm.length < 1000) (hj : nm[j]? = some f)
    (cl : Cls X.K Cd) (na : NoAttr X.K Cd f) (ho : ME X C E o mo) (hv : ME X C E value mv) : MS X C E (.AugAssign (.Attribute o f tpos) op value pos) (augFS c j g mo mv) := by
  refine PS.imp (ps_fldaug ho hv hop) fun D σ H ⟨ρ, st, env, re, S, p⟩ => ⟨ρ, st, env, re, S, PostS.bind p fun x s1 H1 ρ1 v hx e1 S1 r1 p1 => ?_⟩
  have re1 := re.evo e1 S.liv
  unfold fldW at p1
  split at p1
  · rename_i l
    split at p1
    · rename_i c' fs es
      split at p1
      · rename_i ec
        subst ec
        split at p1
        · rename_i y ew
          rw [R.toS_ok] at p1
          have rl := r1
          cases r1 with
          | @loc a l q =>
            obtain ⟨Cd', nm', dx, fvs, q1, q2, q3⟩ := S1.obj _ a _ q es
            rw [hc] at q1; cases q1
            obtain ⟨vv, l1, l2⟩ := q3.2.1 j f y hj ew
            refine ⟨a, Cd, dx, fvs, vv, rfl, q2, cl, na, l1, ?_⟩
            refine ⟨ρ1, s1, env, re1, S1, PostS.bind p1 fun w s3 H3 ρ3 u hw e3 S3 r3 p3 => ?_⟩
            have re3 := re1.evo e3 S1.liv
            refine hg H3 ρ3 s3 vv u y w _ S3 (l2.evo e3 S1.liv) r3 (PostS.bind p3 fun z s4 H4 ρ4 zv hz e4 S4 r4 p4 => ?_)
            have q4 : ρ4.pl[_]? = some a := e4.pre _ _ (e3.pre _ _ q)
            split at p4
            · rename_i c'' fs' es'
              split at p4
              · rename_i ec'
                subst ec'
                obtain ⟨Cd', nm', dx', fvs', q1', q2', q3'⟩ := S4.obj _ a _ q4 es'
                rw [hc] at q1'; cases q1'
                obtain ⟨ev, S5⟩ := ins_write (dx := dx') S4 hc nd hj q4 es' q3' r4
                exact ⟨dx', fvs', q2', q3'.small hl, p4 _ ρ4 σ ev S5 ((re3.evo e4 S3.liv).evo ev S4.liv)⟩
              · exact p4.elim
            · exact p4.elim
        · exact p1.elim
      · exact p1.elim
    · exact p1.elim
  · exact p1.elim
theorem om_rAdd : OpM C E rAdd (int0 fun i j => .int (i + j)) := by
  intro H ρ st v u x y Q S rx ry p
  unfold int0 at p
  split at p
  · cases rx; cases ry
    exact ⟨_, _, rfl, rfl, p H ρ _ (Evo.refl ..) S (.int _)⟩
  · exact p.elim
theorem om_rSub : OpM C E rSub (int0 fun i j => .int (i - j)) := by
  intro H ρ st v u x y Q S rx ry p
  unfold int0 at p
  split at p
  · cases rx; cases ry
    exact ⟨_, _, rfl, rfl, p H ρ _ (Evo.refl ..) S (.int _)⟩
  · exact p.elim

/-! ### statements -/
def sqS (a b : Sx) : Sx := fun env st => (a env st).go b
variable {s : Stmt} {ss : List Stmt} {m1 m2 : Sx}
theorem mss_nil : MSs X C E [] passS := PSs.imp pss_nil fun D σ H ⟨ρ, st, env, re, S, p⟩ => p H ρ σ (Evo.refl ..) S re
theorem mss_cons (h1 : MS X C E s m1) (h2 : MSs X C E ss m2) : MSs X C E (s :: ss) (sqS m1 m2) := by
  refine PSs.imp (pss_cons h1 h2) fun D σ H ⟨ρ, st, env, re, S, p⟩ => ⟨ρ, st, env, re, S, ?_⟩
  unfold sqS at p
  cases h : m1 env st with
  | nx env' st' => rw [h] at p; exact fun H' ρ' σ' e' S' re' => ⟨ρ', st', env', re', S', PostS.shift p e'⟩
  | rt w st' => rw [h] at p; exact p
  | bk e' st' => rw [h] at p; exact p
  | ct e' st' => rw [h] at p; exact p
  | ex c' st' => rw [h] at p; exact p
  | no => rw [h] at p; exact p
theorem mss_one (h1 : MS X C E s m1) : MSs X C E [s] m1 := pss_one h1
theorem ms_pass : MS X C E (.Pass pos) passS := PS.imp ps_pass fun D σ H ⟨ρ, st, env, re, S, p⟩ => p H ρ σ (Evo.refl ..) S re
def bkS : Sx := fun env st => .bk env st
def ctS : Sx := fun env st => .ct env st
theorem ms_break : MS X C E (.Break pos) bkS := PS.imp ps_break fun D σ H ⟨ρ, st, env, re, S, p⟩ => p H ρ σ (Evo.refl ..) S re
theorem ms_continue : MS X C E (.Continue pos) ctS := PS.imp ps_continue fun D σ H ⟨ρ, st, env, re, S, p⟩ => p H ρ σ (Evo.refl ..) S re
def exS (m : Ex) : Sx := fun env st => (m env st).toS fun _ s => .nx env s
theorem ms_expr (h : ME X C E e ma) (hs : swapsWith e none pos.line X.env = pure false := by rfl) : MS X C E (.Expr e pos) (exS ma) :=
  PS.imp (ps_expr h hs) fun D σ H ⟨ρ, st, env, re, S, p⟩ => ⟨ρ, st, env, re, S, PostS.bind p fun w s1 H1 ρ1 v hw e1 S1 r1 p1 => p1 H1 ρ1 σ (Evo.refl ..) S1 (re.evo e1 S.liv)⟩
def rtS (m : Ex) : Sx := fun env st => (m env st).toS fun w s => .rt w s
def rnS : Sx := fun _ st => .rt .non st
theorem ms_ret (h : ME X C E e ma) : MS X C E (.Return (some e) pos) (rtS ma) :=
  PS.imp (ps_ret h) fun D σ H ⟨ρ, st, env, re, S, p⟩ => ⟨ρ, st, env, re, S, PostS.bind p fun w s1 H1 ρ1 v hw e1 S1 r1 p1 => p1 H1 ρ1 v (Evo.refl ..) S1 r1⟩
theorem ms_retN : MS X C E (.Return none pos) rnS := PS.imp ps_retN fun D σ H ⟨ρ, st, env, re, S, p⟩ => p H ρ _ (Evo.refl ..) S .non
def ifS (c : Bx) (a b : Sx) : Sx := fun env st => (c env st).toS fun k s => if k = true then a env s else b env s
theorem ms_if {as bs : List Stmt} {kc : Bx} (hc : MT X C E c kc) (ha : MSs X C E as m1) (hb : MSs X C E bs m2) : MS X C E (.If c as bs pos) (ifS kc m1 m2) := by
  refine PS.imp (ps_if hc ha hb) fun D σ H ⟨ρ, st, env, re, S, p⟩ => ⟨ρ, st, env, re, S, PostS.bind (rel := relB) p fun w s1 H1 ρ1 v hw e1 S1 r1 p1 => ?_⟩
  have r1 : v = w := r1
  subst r1
  cases v with
  | true => exact (if_pos rfl).mpr ⟨ρ1, s1, env, re.evo e1 S.liv, S1, p1⟩
  | false => exact (if_neg (by decide)).mpr ⟨ρ1, s1, env, re.evo e1 S.liv, S1, p1⟩
def setS (i : Nat) (m : Ex) : Sx := fun env st => (m env st).toS fun w s => .nx (env.set i (some w)) s
theorem ms_set {i : Nat} {x : Str} {pos' : Pos} (hN : X.N.Nodup) (hi : X.N[i]? = some x) (hx : Loc X.env.scope x) (h : ME X C E e ma) (hs : swapsWith e (some (.Name x pos')) pos.line X.env = pure false := by rfl)
    (hf : X.fn x = true ∨ X.env.scope.names.lookup x = some .local := by first | exact .inl rfl | exact .inr rfl | assumption) : MS X C E (.Assign [.Name x pos'] e pos) (setS i ma) :=
  PS.imp (ps_set hN hi hx h hs hf) fun D σ H ⟨ρ, st, env, re, S, p⟩ => ⟨ρ, st, env, re, S, PostS.bind p fun w s1 H1 ρ1 v hw e1 S1 r1 p1 => p1 H1 ρ1 _ (Evo.refl ..) S1 ((re.evo e1 S.liv).set r1 i)⟩
/-! targets -/
def tMG (C : MC) (E : XK) (g : W → En → Sto → R En) : TG := fun v σ H Q => ∃ ρ st env w, RelE C.K H ρ st σ env ∧ RelS C H ρ st ∧ Rep C.K H ρ st v w ∧ Post (fun H ρ st σ env => RelE C.K H ρ st σ env) C E H ρ st (g w env st) Q
def tMGs (C : MC) (E : XK) (g : List W → En → Sto → R En) : TGs := fun vs σ H Q => ∃ ρ st env ws, RelE C.K H ρ st σ env ∧ RelS C H ρ st ∧ RepL C.K H ρ st vs ws ∧ Post (fun H ρ st σ env => RelE C.K H ρ st σ env) C E H ρ st (g ws env st) Q
def MG (X : Cx) (C : MC) (E : XK) (t : Expr) (g : W → En → Sto → R En) : Prop := PG X t (tMG C E g)
def MGs (X : Cx) (C : MC) (E : XK) (t : List Expr) (g : List W → En → Sto → R En) : Prop := PGs X t (tMGs C E g)
theorem PG.imp {e : Expr} {t t' : TG} (h : PG X e t) (k : ∀ v σ H Q, t' v σ H Q → t v σ H Q) : PG X e t' := ⟨fun pins s σ H v u Q I r q => h.run pins s σ H v u Q I r (k _ _ _ _ q)⟩
theorem PGs.imp {e : List Expr} {t t' : TGs} (h : PGs X e t) (k : ∀ v σ H Q, t' v σ H Q → t v σ H Q) : PGs X e t' := ⟨fun pins s σ H v u Q I r q => h.run pins s σ H v u Q I r (k _ _ _ _ q)⟩
def gNm (i : Nat) : W → En → Sto → R En := fun w env st => .ok (env.set i (some w)) st
theorem mg_name {i : Nat} {x : Str} (hN : X.N.Nodup) (hi : X.N[i]? = some x) (hx : Loc X.env.scope x) (hf : X.fn x = true ∨ X.env.scope.names.lookup x = some .local := by first | exact .inl rfl | exact .inr rfl | assumption) : MG X C E (.Name x pos) (gNm i) :=
  PG.imp (pg_name hN hi hx hf) fun v σ H Q ⟨ρ, st, env, w, re, S, r, p⟩ => p H ρ _ (Evo.refl ..) S (re.set r i)
def gsN : List W → En → Sto → R En := fun ws env st => match ws with
  | [] => .ok env st
  | _ => .no
def gsC (g : W → En → Sto → R En) (gs : List W → En → Sto → R En) : List W → En → Sto → R En := fun ws env st => match ws with
  | w :: ws => (g w env st).bind fun env' st' => gs ws env' st'
  | [] => .no
theorem mgs_nil : MGs X C E [] gsN := PGs.imp pgs_nil fun v σ H Q ⟨ρ, st, env, w, re, S, r, p⟩ => by
  cases r with
  | nil => exact ⟨rfl, p H ρ _ (Evo.refl ..) S re⟩
  | cons _ _ => exact p.elim
theorem mgs_cons {g : W → En → Sto → R En} {gs : List W → En → Sto → R En} (h1 : MG X C E e g) (h2 : MGs X C E es gs) (hs : (assignEach (e :: es) X.env).map (·.2) = assign e X.env :: (assignEach es X.env).map (·.2) := by rfl) : MGs X C E (e :: es) (gsC g gs) :=
  PGs.imp (pgs_cons h1 h2 hs) fun v σ H Q ⟨ρ, st, env, w, re, S, r, p⟩ => by
    cases r with
    | nil => exact p.elim
    | @cons v vs w ws r1 r2 =>
      refine ⟨v, vs, rfl, ρ, st, env, w, re, S, r1, ?_⟩
      exact Post.bind p fun env' s1 H1 ρ1 σ1 hw e1 S1 re1 p1 => ⟨ρ1, s1, env', ws, re1, S1, r2.evo e1 S.liv, p1⟩
def gTp (n : Nat) (gs : List W → En → Sto → R En) : W → En → Sto → R En := fun w env st => match w with
  | .tup ws => if ws.length = n then gs ws env st else .no
  | _ => .no
theorem mg_tup {kk n : Nat} {gs : List W → En → Sto → R En} (hK : C.K = X.K) (hc : X.calm = true) (h : MGs X C E es gs) (hn : (assignEach es X.env).length = n := by rfl) (hst : (assignEach es X.env).findIdx? (·.1) = none := by rfl) : MG X C E (.Tuple es kk pos) (gTp n gs) :=
  PG.imp (pg_tup hc h hn hst) fun v σ H Q ⟨ρ, st, env, w, re, S, r, p⟩ => by
    unfold gTp at p
    split at p
    · split at p
      · rename_i hl
        cases r with
        | tup q1 q2 => exact ⟨_, _, rfl, hK ▸ q1, by rw [q2.length]; exact hl, ρ, st, env, _, re, S, q2, p⟩
      · exact p.elim
    · exact p.elim
/-- xs[i] = .. -/
def setI (o i w : W) (s : Sto) : R Unit := match o, i with
  | .loc l, .int k => match s[l]? with
    | some (.lst ws) => match ixN ws.length k with
      | some j => .ok () (s.set l (.lst (ws.set j w)))
      | none => .no
    | _ => .no
  | _, _ => .no
def gSb (o i : Ex) : W → En → Sto → R En := fun w env st => (o env st).bind fun x s1 => (i env s1).bind fun y s2 => (setI x y w s2).bind fun _ s3 => .ok env s3
theorem mg_sub (ho : ME X C E o mo) (hi : ME X C E a ma)
    (hs : ∀ v, assign (.Subscript o a pos) X.env v = (do
      let ov ← holding [v] (eval o X.env)
      let iv ← holding [v, ov] (eval a X.env)
      standAt pos
      holding [v, ov, iv] (setItem ov iv v)
      release [v, ov, iv] []) := by intro _; rfl) : MG X C E (.Subscript o a pos) (gSb mo ma) :=
  PG.imp (pg_sub ho hi set_list hs) fun v σ H Q ⟨ρ, st, env, w, re, S, r, p⟩ => by
    refine ⟨ρ, st, env, re, S, Post.bind p fun x s1 H1 ρ1 vx hx e1 S1 r1 p1 => ?_⟩
    have re1 := re.evo e1 S.liv
    refine ⟨ρ1, s1, env, re1, S1, Post.bind p1 fun y s2 H2 ρ2 vy hy e2 S2 r2 p2 => ?_⟩
    have re2 := re1.evo e2 S1.liv
    have rx := r1.evo e2 S1.liv
    have rw_ := (r.evo e1 S.liv).evo e2 S1.liv
    unfold setI at p2
    split at p2
    · split at p2
      · rename_i ws es
        split at p2
        · rename_i j hj
          cases r2
          cases rx with
          | @loc a l q =>
            obtain ⟨zs, hz, rz⟩ := S2.obj _ a _ q es
            obtain ⟨ev, S3⟩ := lst_write S2 q es (rz.set rw_ j)
            exact ⟨a, zs, _, j, rfl, rfl, hz, by rw [rz.length]; exact hj, p2 _ ρ2 σ ev S3 (re2.evo ev S2.liv)⟩
        · exact p2.elim
      · exact p2.elim
    · exact p2.elim
def asgS (m : Ex) (g : W → En → Sto → R En) : Sx := fun env st => (m env st).toS fun w s => (g w env s).toS fun env' s' => .nx env' s'
theorem ms_asg {t : Expr} {g : W → En → Sto → R En} (h : ME X C E e ma) (hg : MG X C E t g) (hs : swapsWithSole [t] e pos.line X.env = pure false := by rfl) (hw : swappedStores [t] e X.env = pure none := by rfl)
    (h1 : (assignEach [t] X.env).map (·.2) = [assign t X.env] := by rfl) : MS X C E (.Assign [t] e pos) (asgS ma g) :=
  PS.imp (ps_asg h hg hs hw h1) fun D σ H ⟨ρ, st, env, re, S, p⟩ => ⟨ρ, st, env, re, S, PostS.bind p fun w s1 H1 ρ1 v hw e1 S1 r1 p1 =>
    ⟨ρ1, s1, env, w, re.evo e1 S.liv, S1, r1, PostS.bind p1 fun env' s2 H2 ρ2 σ2 hw2 e2 S2 re2 p2 => p2 H2 ρ2 σ2 (Evo.refl ..) S2 re2⟩⟩
/-- a, b = x, y: plain names -/
def parS (i j : Nat) (m : Ax) : Sx := fun env st => (m env st).toS fun ws s => match ws with
  | [v, w] => .nx ((env.set i (some v)).set j (some w)) s
  | _ => .no
theorem ms_par {i j : Nat} {x y : Str} {px py pt : Pos} {kt k2 pt2} (hc : X.calm = true) (hN : X.N.Nodup) (hi : X.N[i]? = some x) (hj : X.N[j]? = some y) (hij : i ≠ j)
    (hx : X.env.scope.names.lookup x = some .local) (hy : X.env.scope.names.lookup y = some .local) (ha : MA' X C E [a, b] mr)
    (hw : swappedStores [.Tuple [.Name x px, .Name y py] kt pt] (.Tuple [a, b] k2 pt2) X.env = pure (some [x, y]))
    (hs : swapsWithSole [.Tuple [.Name x px, .Name y py] kt pt] (.Tuple [a, b] k2 pt2) pos.line X.env = pure false := by rfl) :
    MS X C E (.Assign [.Tuple [.Name x px, .Name y py] kt pt] (.Tuple [a, b] k2 pt2) pos) (parS i j mr) :=
  PS.imp (ps_par hc hN hi hj hij hx hy ha.pa hw hs) fun D σ H ⟨ρ, st, env, re, S, p⟩ => ⟨ρ, st, env, re, S, PostS.bind p fun ws s1 H1 ρ1 vs hw e1 S1 r1 p1 => by
    split at p1
    · obtain ⟨v, u, rfl, q1, q2⟩ := r1.two
      exact ⟨v, u, rfl, p1 H1 ρ1 _ (Evo.refl ..) S1 (((re.evo e1 S.liv).set q1 i).set q2 j)⟩
    · exact p1.elim⟩
/-- name op= e -/
def augS (i : Nat) (f : W → W → Sto → R W) (m : Ex) : Sx := fun env st => (vr i env st).toS fun x s0 => (m env s0).toS fun y s1 => (f x y s1).toS fun z s2 => .nx (env.set i (some z)) s2
theorem ms_aug {i : Nat} {x : Str} {op : Operator} {ti : TIp} {pos' : Pos} {f : W → W → Sto → R W} (hN : X.N.Nodup) (hi : X.N[i]? = some x) (hx : Loc X.env.scope x) (he : ME X C E e ma) (ho : PIp X op ti) (hf' : OpM C E ti f)
    (hf : X.fn x = true ∨ X.env.scope.names.lookup x = some .local := by first | exact .inl rfl | exact .inr rfl | assumption) : MS X C E (.AugAssign (.Name x pos') op e pos) (augS i f ma) :=
  PS.imp (ps_aug hN hi hx he ho hf) fun D σ H ⟨ρ, st, env, re, S, p⟩ => by
    unfold augS vr at p
    split at p
    · rename_i w ew
      rw [R.toS_ok] at p
      obtain ⟨v, q, r⟩ := re.2 i w ew
      refine ⟨v, q, ρ, st, env, re, S, PostS.bind p fun y s1 H1 ρ1 u hw e1 S1 r1 p1 => ?_⟩
      refine hf' H1 ρ1 s1 v u w y _ S1 (r.evo e1 S.liv) r1 (PostS.bind p1 fun z s2 H2 ρ2 zv hz e2 S2 r2 p2 => ?_)
      exact p2 H2 ρ2 _ (Evo.refl ..) S2 (((re.evo e1 S.liv).evo e2 S1.liv).set r2 i)
    · exact p.elim
theorem om_ipI {g : Int → Int → Int} : OpM C E (ipI g) (int0 fun i j => .int (g i j)) := by
  intro H ρ st v u x y Q S rx ry p
  unfold int0 at p
  split at p
  · cases rx; cases ry
    exact ⟨_, _, rfl, rfl, p H ρ _ (Evo.refl ..) S (.int _)⟩
  · exact p.elim
end
end
end ML

/-! ML5: loops, comprehensions, defs -/
namespace ML
open PySem L2
noncomputable section
variable {X : Cx} {C : MC} {E : XK} {a b c e o value : Expr} {ma mb mc mo mv : Ex} {pos pos' tpos : Pos} {es : List Expr} {mr : Ax}
/-! ### while: with a number of turns that is enough -/
def lpS (b : Sx) (k : Sx) : Sx := fun env st => (b env st).lp k
def whF (c : Bx) (b : Sx) : Nat → Sx
  | 0 => fun _ _ => .no
  | n + 1 => fun env st => (c env st).toS fun k s1 => if k = true then lpS b (whF c b n) env s1 else .nx env s1
def whS (fuel : En → Sto → Nat) (c : Bx) (b : Sx) : Sx := fun env st => whF c b (fuel env st) env st
/-- a loop's body, what comes behind it known -/
theorem lp_of {H : Hp} {ρ : Pl} {st : Sto} {σ : St} {env : En} {b k : Sx} {D : Ends} {N : St → Hp → Prop} (re : RelE C.K H ρ st σ env) (S : RelS C H ρ st) (p : PostS C E H ρ st (lpS b k env st) D)
    (hN : ∀ H' ρ' σ' env' st', RelE C.K H' ρ' st' σ' env' → RelS C H' ρ' st' → PostS C E H' ρ' st' (k env' st') D → N σ' H') : tMS C E b { D with nx := N, ct := N, bk := D.nx } σ H := by
  refine ⟨ρ, st, env, re, S, ?_⟩
  unfold lpS at p
  cases h : b env st with
  | nx env' st' => rw [h] at p; exact fun H' ρ' σ' e' S' re' => hN _ _ _ _ _ re' S' (PostS.shift p e')
  | ct env' st' => rw [h] at p; exact fun H' ρ' σ' e' S' re' => hN _ _ _ _ _ re' S' (PostS.shift p e')
  | bk env' st' => rw [h] at p; exact p
  | rt w st' => rw [h] at p; exact p
  | ex c' st' => rw [h] at p; exact p
  | no => rw [h] at p; exact p
theorem ms_while (fuel : En → Sto → Nat) {body : List Stmt} {kc : Bx} {mb : Sx} (hp : PassesOwn (model X.prog X.w) X.A X.env X.xe) (hc : MT X C E c kc) (hb : MSs X C E body mb) : MS X C E (.While c body [] pos) (whS fuel kc mb) := by
  refine PS.imp (ps_while hp hc hb) fun D σ H ⟨ρ, st, env, re, S, p⟩ => ?_
  refine ⟨fun m σ H => ∃ ρ st env, RelE C.K H ρ st σ env ∧ RelS C H ρ st ∧ PostS C E H ρ st (whF kc mb m env st) D, ⟨fuel env st, ρ, st, env, re, S, p⟩, ?_⟩
  rintro m σ H ⟨ρ, st, env, re, S, p⟩
  cases m with
  | zero => exact p.elim
  | succ n =>
    refine ⟨ρ, st, env, re, S, PostS.bind (rel := relB) p fun k s1 H1 ρ1 v hk e1 S1 r1 p1 => ?_⟩
    have r1 : v = k := r1
    subst r1
    cases v with
    | false => exact (if_neg (by decide)).mpr (p1 H1 ρ1 σ (Evo.refl ..) S1 (re.evo e1 S.liv))
    | true =>
      refine (if_pos rfl).mpr ⟨fun σ' H' => ∃ ρ st env, RelE C.K H' ρ st σ' env ∧ RelS C H' ρ st ∧ PostS C E H' ρ st (whF kc mb n env st) D, fun σ' H' q => ⟨n, Nat.lt_succ_self n, q⟩, ?_⟩
      exact lp_of (re.evo e1 S.liv) S1 p1 fun H' ρ' σ' env' st' re' S' p' => ⟨ρ', st', env', re', S', p'⟩

/-! ### what is walked -/
/-- known items, or what is read off the state at each turn (with a number of turns that is enough) -/
inductive Src where
  | st (ws : List W)
  | dy (n : Nat) (f : Nat → Sto → Option (Option W))
def Src.at : Src → Nat → Sto → Option (Option W)
  | .st ws, i, _ => some ws[i]?
  | .dy _ f, i, s => f i s
def Src.n : Src → Nat
  | .st ws => ws.length + 1
  | .dy n _ => n
def ItRel (C : MC) (J : It) (H : Hp) (ρ : Pl) (st : Sto) (src : Src) : Prop := ∀ H' ρ' st', Evo H ρ st H' ρ' st' → RelS C H' ρ' st' → ∀ (i : Nat) (o : Option W), src.at i st' = some o → match o with
  | some w => J.go i H' ∧ ∀ x H'', J.yld i H' x H'' → Evo H' ρ' st' H'' ρ' st' ∧ RelS C H'' ρ' st' ∧ Rep C.K H'' ρ' st' x w
  | none => J.stop i H'
theorem ItRel.evo {J : It} {H H' : Hp} {ρ ρ' : Pl} {st st' : Sto} {src : Src} (h : ItRel C J H ρ st src) (e : Evo H ρ st H' ρ' st') : ItRel C J H' ρ' st' src := fun H2 ρ2 st2 e2 => h H2 ρ2 st2 (e.trans e2)
abbrev Ix := En → Sto → R Src
abbrev relSrc (C : MC) : Hp → Pl → Sto → It → Src → Prop := fun H ρ st J src => ItRel C J H ρ st src
def tMI (C : MC) (E : XK) (m : Ix) : TI := fun σ H R => ∃ ρ st env, RelE C.K H ρ st σ env ∧ RelS C H ρ st ∧ Post (relSrc C) C E H ρ st (m env st) R
def MI (X : Cx) (C : MC) (E : XK) (tg iter : Expr) (m : Ix) : Prop := PI X tg iter (tMI C E m)
theorem PI.imp {tg iter : Expr} {t t' : TI} (h : PI X tg iter t) (k : ∀ σ H R, t' σ H R → t σ H R) : PI X tg iter t' := ⟨fun pins s σ H R I q => h.run pins s σ H R I (k _ _ _ q)⟩
/-- a list or a tuple -/
theorem pi_seq {tg l : Expr} {tl : TE} (hl : PE X l tl) : PI X tg l (fun σ H R => tl σ H fun x H1 => ∃ a, x = .ref a ∧ (((∃ xs, SqL X.K H1 a xs) ∧ R (Itl X.K a) H1) ∨ ((∃ xs, SqT X.K H1 a xs) ∧ R (Itt X.K a) H1))) := by
  constructor
  intro pins s σ H R I h
  refine thn (hl.run pins s σ H _ I h) fun v s1 ⟨x, H1, I1, r1, a, ex, q⟩ => ?_
  subst ex
  cases r1
  have fp : ∀ b ∈ [s1.heap.objs.size], FpOk X pins H1 b := fun b hb => (List.mem_singleton.mp hb).symm ▸ I1.fpOk (Nat.le_refl _) (I1.hok.fresh (Nat.le_refl _))
  rcases q with ⟨⟨xs, hq⟩, q⟩ | ⟨⟨xs, hq⟩, q⟩
  · obtain ⟨its, rv, p, hz⟩ := I1.list hq
    exact wpAny_pyIter_list p.isList ⟨_, [_], _, _, H1, rfl, I1.kept (t' := s1.toks) fun b o e => Heap.get?_push_of_some _ e, turn_list a _, ⟨_, Heap.get?_push_size _ rfl, rfl, rfl⟩, fp, q⟩
  · obtain ⟨its, rv, p, hz⟩ := I1.tuple hq
    exact wpAny_pyIter_tuple (show s1.heap.IsTuple a its.toArray from p) ⟨_, [_], _, _, H1, rfl, I1.kept (t' := s1.toks) fun b o e => Heap.get?_push_of_some _ e, turn_tuple a _, ⟨_, Heap.get?_push_size _ rfl, rfl, rfl⟩, fp, q⟩
def srcL (g : Nat → W → W) (w : W) (s : Sto) : Option Src := match w with
  | .fl ws => some (.st (ws.zipIdx.map fun p => g p.2 p.1))
  | .kl ws => some (.st (ws.zipIdx.map fun p => g p.2 p.1))
  | w => match lstOf s w with
    | some ws => some (.dy (ws.length + 1) fun i st' => (lstOf st' w).map fun ws => ws[i]?.map (g i))
    | none => none
theorem srcL_lst {g : Nat → W → W} {w : W} {s : Sto} {src : Src} (h : srcL g w s = some src) : ∃ ws, lstK s w = some ws := by
  unfold srcL at h
  cases w with
  | fl ws => exact ⟨ws, rfl⟩
  | kl ws => exact ⟨ws, rfl⟩
  | loc l =>
    simp only at h
    split at h
    · rename_i ws e; exact ⟨ws, e⟩
    · cases h
  | _ => simp [lstOf] at h
theorem srcL_at {g : Nat → W → W} {w : W} {s : Sto} {src : Src} (h : srcL g w s = some src) {st' : Sto} {i : Nat} {o : Option W} (ho : src.at i st' = some o) : ∃ ws, lstK st' w = some ws ∧ o = ws[i]?.map (g i) := by
  unfold srcL at h
  cases w with
  | fl ws => cases h; cases ho; exact ⟨ws, rfl, by simp [List.getElem?_map, List.getElem?_zipIdx]; rfl⟩
  | kl ws => cases h; cases ho; exact ⟨ws, rfl, by simp [List.getElem?_map, List.getElem?_zipIdx]; rfl⟩
  | loc l =>
    simp only at h
    split at h
    · cases h
      have ho : (lstOf st' (.loc l)).map (fun ws => ws[i]?.map (g i)) = some o := ho
      rw [Option.map_eq_some_iff] at ho
      obtain ⟨ws, e, q⟩ := ho
      exact ⟨ws, e, q.symm⟩
    · cases h
  | _ => simp [lstOf] at h
def sqI (m : Ex) : Ix := fun env st => (m env st).bind fun w s => match w with
  | .tup ws => .ok (.st ws) s
  | .fl ws => .ok (.st ws) s
  | .kl ws => .ok (.st ws) s
  | w => match srcL (fun _ w => w) w s with
    | some src => .ok src s
    | none => .no
theorem itl_rel {H : Hp} {ρ : Pl} {st s : Sto} {a : Addr} {w : W} {src : Src} (S : RelS C H ρ st) (r : Rep C.K H ρ st (.ref a) w) (h : ∀ st' i o, src.at i st' = some o → ∃ ws, lstK st' w = some ws ∧ o = ws[i]?) : ItRel C (Itl C.K a) H ρ st src := by
  intro H' ρ' st' ev S' i o ho
  have r' := r.evo ev S.liv
  obtain ⟨ws, e, eo⟩ := h _ _ _ ho
  obtain ⟨a', vs', ea, q', rr⟩ := lstK_rep S' r' e
  cases ea
  subst eo
  cases ei : ws[i]? with
  | none => exact ⟨vs', q', by rw [rr.length]; exact List.getElem?_eq_none_iff.mp ei⟩
  | some x =>
    obtain ⟨v, hv, rv⟩ := rr.get ei
    refine ⟨⟨vs', v, q', hv⟩, fun y H'' hy => ?_⟩
    obtain ⟨eH, hy⟩ := hy
    have := hy vs' q'
    rw [hv] at this; cases this
    rw [eH]
    exact ⟨Evo.refl .., S', rv⟩
theorem itt_rel {H : Hp} {ρ : Pl} {st : Sto} {a : Addr} {vs : List V} {ws : List W} (S : RelS C H ρ st) (q : SqT C.K H a vs) (r : RepL C.K H ρ st vs ws) : ItRel C (Itt C.K a) H ρ st (.st ws) := by
  intro H' ρ' st' ev S' i o ho
  have q' := SqT.evo ev S.liv q
  have rr := r.evo ev S.liv
  cases ho
  cases ei : ws[i]? with
  | none => exact ⟨vs, q', by rw [rr.length]; exact List.getElem?_eq_none_iff.mp ei⟩
  | some x =>
    obtain ⟨v, hv, rv⟩ := rr.get ei
    refine ⟨⟨vs, v, q', hv⟩, fun y H'' hy => ?_⟩
    obtain ⟨eH, hy⟩ := hy
    have := hy vs q'
    rw [hv] at this; cases this
    rw [eH]
    exact ⟨Evo.refl .., S', rv⟩
theorem mi_seq {tg l : Expr} {ml : Ex} (hK : C.K = X.K) (hl : ME X C E l ml) : MI X C E tg l (sqI ml) := by
  refine PI.imp (pi_seq hl) fun σ H R ⟨ρ, st, env, re, S, p⟩ => ⟨ρ, st, env, re, S, Post.bind (rel := relW C) p fun w s1 H1 ρ1 v hw e1 S1 r1 p1 => ?_⟩
  rw [← hK]
  have lk : ∀ ws, lstK s1 w = some ws → Post (relSrc C) C E H1 ρ1 s1 (.ok (.st ws) s1) R → (∀ st', lstK st' w = some ws) → ∃ a, v = .ref a ∧ (((∃ xs, SqL C.K H1 a xs) ∧ R (Itl C.K a) H1) ∨ ((∃ xs, SqT C.K H1 a xs) ∧ R (Itt C.K a) H1)) := fun ws h p hk => by
    obtain ⟨a, vs, rfl, q, r⟩ := lstK_rep S1 r1 h
    exact ⟨a, rfl, .inl ⟨⟨vs, q⟩, p H1 ρ1 _ (Evo.refl ..) S1 (itl_rel (s := s1) S1 r1 fun st' i o ho => ⟨ws, hk st', by cases ho; rfl⟩)⟩⟩
  split at p1
  · cases r1 with
    | tup q r => exact ⟨_, rfl, .inr ⟨⟨_, q⟩, p1 H1 ρ1 _ (Evo.refl ..) S1 (itt_rel S1 q r)⟩⟩
  · exact lk _ rfl p1 fun _ => rfl
  · exact lk _ rfl p1 fun _ => rfl
  · split at p1
    · rename_i src e0
      obtain ⟨ws, ek⟩ := srcL_lst e0
      obtain ⟨a, vs, rfl, q, r⟩ := lstK_rep S1 r1 ek
      exact ⟨a, rfl, .inl ⟨⟨vs, q⟩, p1 H1 ρ1 _ (Evo.refl ..) S1 (itl_rel (s := s1) S1 r1 fun st' i o ho => by
        obtain ⟨ws, h1, h2⟩ := srcL_at e0 ho
        exact ⟨ws, h1, by rw [h2]; simp⟩)⟩⟩
    · exact p1.elim
/-- range -/
def rngL (lo : Int) (n : Nat) : List W := (List.range n).map fun (i : Nat) => W.int (lo + (i : Int))
theorem itr_rel {H : Hp} {ρ : Pl} {st : Sto} {lo : Int} {n : Nat} : ItRel C (Itr lo n) H ρ st (.st (rngL lo n)) := by
  intro H' ρ' st' ev S' i o ho
  cases ho
  unfold rngL
  rw [List.getElem?_map]
  by_cases hi : i < n
  · rw [List.getElem?_range hi]
    refine ⟨hi, fun x H'' hy => ?_⟩
    obtain ⟨e1, e2⟩ := hy
    rw [e1, e2]
    exact ⟨Evo.refl .., S', .int _⟩
  · rw [List.getElem?_eq_none_iff.mpr (by simpa using hi)]
    exact Nat.le_of_not_lt hi
def smI (j : Int) : Bool := ck (-(2 ^ 62) ≤ j ∧ j < 2 ^ 62)
def rg1 (m : Ax) : Ix := fun env st => (m env st).bind fun ws s => match ws with
  | [.int j] => if smI j = true then .ok (.st (rngL 0 j.toNat)) s else .no
  | _ => .no
theorem smI_ok {j : Int} (h : smI j = true) : -(2 ^ 62) ≤ j ∧ j < 2 ^ 62 := by
  unfold smI at h
  rw [ck_iff] at h
  exact h
theorem mi_range1 {tg : Expr} {p pos : Pos} (hg : Gl X "range") (hm : X.mg "range" = none) (ha : MA' X C E [a] mr) (hs : starEach [a] X.env = [(false, eval a X.env)] := by rfl) : MI X C E tg (.Call (.Name "range" p) [a] [] pos) (rg1 mr) := by
  refine PI.imp (pi_range1 hg hm ha.pa hs) fun σ H R ⟨ρ, st, env, re, S, p⟩ => ⟨ρ, st, env, re, S, Post.bind p fun ws s1 H1 ρ1 vs hw e1 S1 r1 p1 => ?_⟩
  split at p1
  · split at p1
    · rename_i h
      obtain ⟨v, rfl, r⟩ := r1.one
      cases r
      obtain ⟨h1, h2⟩ := smI_ok h
      exact ⟨_, rfl, h1, h2, p1 H1 ρ1 _ (Evo.refl ..) S1 itr_rel⟩
    · exact p1.elim
  · exact p1.elim
def rg2 (m : Ax) : Ix := fun env st => (m env st).bind fun ws s => match ws with
  | [.int i, .int j] => if smI i = true ∧ smI j = true then .ok (.st (rngL i (j - i).toNat)) s else .no
  | _ => .no
theorem mi_range2 {tg : Expr} {p pos : Pos} (hg : Gl X "range") (hm : X.mg "range" = none) (ha : MA' X C E [a, b] mr) (hs : starEach [a, b] X.env = [(false, eval a X.env), (false, eval b X.env)] := by rfl) (hs2 : starEach [b] X.env = [(false, eval b X.env)] := by rfl) : MI X C E tg (.Call (.Name "range" p) [a, b] [] pos) (rg2 mr) := by
  refine PI.imp (pi_range2 hg hm ha.pa hs hs2) fun σ H R ⟨ρ, st, env, re, S, p⟩ => ⟨ρ, st, env, re, S, Post.bind p fun ws s1 H1 ρ1 vs hw e1 S1 r1 p1 => ?_⟩
  split at p1
  · split at p1
    · rename_i h
      obtain ⟨v, u, rfl, r, q⟩ := r1.two
      cases r; cases q
      obtain ⟨h1, h2⟩ := smI_ok h.1
      obtain ⟨h3, h4⟩ := smI_ok h.2
      exact ⟨_, _, rfl, ⟨h1, h2, h3, h4⟩, p1 H1 ρ1 _ (Evo.refl ..) S1 itr_rel⟩
    · exact p1.elim
  · exact p1.elim

/-! ### for -/
def forL (g : W → En → Sto → R En) (b : Sx) : List W → Sx
  | [] => fun env st => .nx env st
  | w :: ws => fun env st => (g w env st).toS fun env1 st1 => lpS b (forL g b ws) env1 st1
def forF (f : Nat → Sto → Option (Option W)) (g : W → En → Sto → R En) (b : Sx) : Nat → Nat → Sx
  | 0, _ => fun _ _ => .no
  | n + 1, i => fun env st => match f i st with
    | some (some w) => (g w env st).toS fun env1 st1 => lpS b (forF f g b n (i + 1)) env1 st1
    | some none => .nx env st
    | none => .no
def forS (m : Ix) (g : W → En → Sto → R En) (b : Sx) : Sx := fun env st => (m env st).toS fun src s1 => match src with
  | .st ws => forL g b ws env s1
  | .dy n f => forF f g b n 0 env s1
theorem forL_F {g : W → En → Sto → R En} {b : Sx} {ws : List W} : ∀ (n i : Nat), ws.length < n + i → i ≤ ws.length → forL g b (ws.drop i) = forF (fun i _ => some ws[i]?) g b n i := by
  intro n
  induction n with
  | zero => intro i h1 h2; omega
  | succ n ih =>
    intro i h1 h2
    funext env st
    by_cases hi : i < ws.length
    · rw [List.drop_eq_getElem_cons hi]
      have e : ws[i]? = some ws[i] := by simp [hi]
      show (g ws[i] env st).toS (fun env1 st1 => lpS b (forL g b (ws.drop (i + 1))) env1 st1) = (match some ws[i]? with
        | some (some w) => (g w env st).toS fun env1 st1 => lpS b (forF (fun i _ => some ws[i]?) g b n (i + 1)) env1 st1
        | some none => .nx env st
        | none => .no)
      rw [e, ih (i + 1) (by omega) (by omega)]
    · have e : ws[i]? = none := List.getElem?_eq_none_iff.mpr (by omega)
      have ed : ws.drop i = [] := List.drop_eq_nil_of_le (by omega)
      rw [ed]
      show SR.nx env st = (match some ws[i]? with
        | some (some w) => (g w env st).toS fun env1 st1 => lpS b (forF (fun i _ => some ws[i]?) g b n (i + 1)) env1 st1
        | some none => .nx env st
        | none => .no)
      rw [e]
theorem ms_for {tg iter : Expr} {body : List Stmt} {mi : Ix} {g : W → En → Sto → R En} {mb : Sx} (hp : PassesOwn (model X.prog X.w) X.A X.env X.xe) (hc : X.calm = true) (hi : MI X C E tg iter mi) (hg : MG X C E tg g) (hb : MSs X C E body mb) (hs : ∀ x, foldedSetIterable iter X.env x = pure x := by intro _; rfl) :
    MS X C E (.For tg iter body [] pos) (forS mi g mb) := by
  refine PS.imp (ps_for hp hc hi hg hb (hs := hs)) fun D σ H ⟨ρ, st, env, re, S, p⟩ => ⟨ρ, st, env, re, S, PostS.bind (rel := relSrc C) p fun src s1 H1 ρ1 J hj e1 S1 r1 p1 => ?_⟩
  have p1' : PostS C E H1 ρ1 s1 (forF src.at g mb src.n 0 env s1) D := by
    cases src with
    | st ws =>
      have e := forL_F (g := g) (b := mb) (ws := ws) (ws.length + 1) 0 (by omega) (by omega)
      rw [List.drop_zero] at e
      show PostS C E H1 ρ1 s1 (forF (fun i _ => some ws[i]?) g mb (ws.length + 1) 0 env s1) D
      rw [← e]
      exact p1
    | dy n f => exact p1
  refine ⟨fun i m σ H => ∃ ρ st env, RelE C.K H ρ st σ env ∧ RelS C H ρ st ∧ ItRel C J H ρ st src ∧ PostS C E H ρ st (forF src.at g mb m i env st) D, ⟨src.n, ρ1, s1, env, re.evo e1 S.liv, S1, r1, p1'⟩, ?_⟩
  rintro i m σ H ⟨ρ, st, env, re, S, rj, p⟩
  cases m with
  | zero => exact p.elim
  | succ n =>
    unfold forF at p
    cases e : src.at i st with
    | none => rw [e] at p; exact p.elim
    | some o =>
      have q := rj H ρ st (Evo.refl ..) S i o e
      rw [e] at p
      cases o with
      | none => exact .inl ⟨q, p H ρ σ (Evo.refl ..) S re⟩
      | some w =>
        refine .inr ⟨q.1, fun σ' H' => ∃ ρ st env, RelE C.K H' ρ st σ' env ∧ RelS C H' ρ st ∧ ItRel C J H' ρ st src ∧ PostS C E H' ρ st (forF src.at g mb n (i + 1) env st) D, fun σ' H' q => ⟨n, Nat.lt_succ_self n, q⟩, fun x H' hy => ?_⟩
        obtain ⟨ev, S', rx⟩ := q.2 x H' hy
        refine ⟨ρ, st, env, w, re.evo ev S.liv, S', rx, PostS.bind (PostS.shift p ev) fun env1 s2 H2 ρ2 σ2 hw e2 S2 re2 p2 => ?_⟩
        have rj2 := (rj.evo ev).evo e2
        have base : Evo H2 ρ2 s2 H2 ρ2 s2 := Evo.refl ..
        refine ⟨ρ2, s2, env1, re2, S2, ?_⟩
        unfold lpS at p2
        cases h : mb env1 s2 with
        | nx env' st' => rw [h] at p2; exact fun H' ρ' σ' e' S' re' => ⟨ρ', st', env', re', S', rj2.evo e', PostS.shift p2 e'⟩
        | ct env' st' => rw [h] at p2; exact fun H' ρ' σ' e' S' re' => ⟨ρ', st', env', re', S', rj2.evo e', PostS.shift p2 e'⟩
        | bk env' st' => rw [h] at p2; exact p2
        | rt w st' => rw [h] at p2; exact p2
        | ex c' st' => rw [h] at p2; exact p2
        | no => rw [h] at p2; exact p2
end
end ML

/-! ML6: comprehensions, enumerate, zip, defs -/
namespace ML
open PySem L2
noncomputable section
section
variable {α β γ δ : Type} {rel : Hp → Pl → Sto → β → α → Prop} {rel' : Hp → Pl → Sto → δ → γ → Prop} {C : MC} {E : XK} {H Hc : Hp} {ρ ρc : Pl} {st stc : Sto} {r : R α} {Q : β → Hp → Prop}
/-- a result at a later state, what follows still said of the first one -/
theorem Post.bindAt {f : α → Sto → R γ} {Q' : δ → Hp → Prop} (h : Post rel' C E H ρ st (r.bind f) Q') (ev : Evo H ρ st Hc ρc stc)
    (k : ∀ (w : α) (st1 : Sto) (H1 : Hp) (ρ1 : Pl) (v : β), r = .ok w st1 → Evo Hc ρc stc H1 ρ1 st1 → RelS C H1 ρ1 st1 → rel H1 ρ1 st1 v w → Post rel' C E H ρ st (f w st1) Q' → Q v H1) : Post rel C E Hc ρc stc r Q := by
  cases r with
  | ok w st' => exact fun H' ρ' v e s q => k w st' H' ρ' v rfl e s q h
  | ex c st' => exact fun H' ρ' a e s q => h H' ρ' a (ev.trans e) s q
  | no => exact h
end
section
variable {X : Cx} {C : MC} {E : XK} {a b c e o value : Expr} {ma mb mc mo mv : Ex} {pos pos' tpos : Pos} {es : List Expr} {mr : Ax}

/-! ### targets of a comprehension: names -/
/-- how a target sets slots, in both worlds -/
structure CT (K : PySem.W.Frag) (vs : List Nat) (g : TG) (f : W → En → Option En) : Prop where
  ok : ∀ (H : Hp) (ρ : Pl) (st : Sto) (σ : St) (env env1 : En) (v : V) (w : W) (Q : St → Hp → Prop), RelE K H ρ st σ env → Rep K H ρ st v w → f w env = some env1 →
    (∀ σ1, RelE K H ρ st σ1 env1 → wipe σ1 vs = wipe σ vs → Q σ1 H) → g v σ H Q
def ct1 (i : Nat) : W → En → Option En := fun w env => some (env.set i (some w))
theorem wipe_set {σ : St} {i : Nat} {o : Option V} : ∀ {vs : List Nat}, i ∈ vs → wipe (σ.set i o) vs = wipe σ vs
  | v :: vs, h => by
    unfold wipe
    by_cases e : i ∈ vs
    · rw [wipe_set e]
    · have hv : i = v := (List.mem_cons.mp h).resolve_right e
      subst hv
      have key : ∀ us : List Nat, i ∉ us → ∀ τ : St, wipe (τ.set i o) us = (wipe τ us).set i o := by
        intro us
        induction us with
        | nil => intro _ τ; rfl
        | cons u us ih =>
          intro hn τ
          unfold wipe
          have ne : i ≠ u := fun z => hn (by rw [z]; exact List.mem_cons_self)
          rw [ih (fun z => hn (List.mem_cons_of_mem _ z)), List.set_comm _ _ ne]
      rw [key vs e, List.set_set]
theorem ct_name {K : PySem.W.Frag} {vs : List Nat} {i : Nat} (h : i ∈ vs) : CT K vs (gName i) (ct1 i) :=
  ⟨fun H ρ st σ env env1 v w Q re r e k => by cases e; exact k _ (re.set r i) (wipe_set h)⟩
def ct2 (i j : Nat) : W → En → Option En := fun w env => match w with
  | .tup [x, y] => some ((env.set i (some x)).set j (some y))
  | _ => none
theorem ct_pair {K : PySem.W.Frag} {vs : List Nat} {i j : Nat} (hi : i ∈ vs) (hj : j ∈ vs) : CT K vs (gTup K 2 (gCons (gName i) (gCons (gName j) gNil))) (ct2 i j) :=
  ⟨fun H ρ st σ env env1 v w Q re r e k => by
    unfold ct2 at e
    split at e
    · cases e
      cases r with
      | tup q r =>
        obtain ⟨v1, v2, rfl, r1, r2⟩ := r.two
        exact ⟨_, _, rfl, q, rfl, v1, [v2], rfl, v2, [], rfl, rfl, k _ ((re.set r1 i).set r2 j) (by rw [wipe_set hj, wipe_set hi])⟩
    · cases e⟩
/-! ### [e for .. in .. if ..] -/
def wipeE (env : En) : List Nat → En
  | [] => env
  | v :: vs => (wipeE env vs).set v none
def lcF (f : Nat → Sto → Option (Option W)) (g : W → En → Option En) (t : Bx) (e : Ex) (env : En) : Nat → Nat → List W → Sto → R (List W)
  | 0, _, _, _ => .no
  | n + 1, i, acc, st => match f i st with
    | some (some w) => match g w env with
      | some env1 => (t env1 st).bind fun k s1 => if k = true then (e env1 s1).bind fun y s2 => if ck (acc.length < 10000000) = true then lcF f g t e env n (i + 1) (acc ++ [y]) s2 else .no else lcF f g t e env n (i + 1) acc s1
      | none => .no
    | some none => .ok acc st
    | none => .no
/-- over known items: what is made, front to back -/
def lcL (g : W → En → Option En) (t : Bx) (e : Ex) (env : En) : List W → Sto → R (List W)
  | [], st => .ok [] st
  | w :: ws, st => match g w env with
    | some env1 => (t env1 st).bind fun k s1 => if k = true then (e env1 s1).bind fun y s2 => (lcL g t e env ws s2).bind fun ys s3 => .ok (y :: ys) s3 else lcL g t e env ws s1
    | none => .no
def lcS (vs : List Nat) (m : Ix) (g : W → En → Option En) (t : Bx) (e : Ex) : Ax := fun env st => (m env st).bind fun src s1 => match src with
  | .st ws => if ck (ws.length < 10000000) = true then lcL g t e (wipeE env vs) ws s1 else .no
  | .dy n f => lcF f g t e (wipeE env vs) n 0 [] s1
def yesB : Bx := fun _ st => .ok true st
theorem wipeE_get {env : En} {i : Nat} {w : W} : ∀ {vs : List Nat}, (wipeE env vs)[i]? = some (some w) → env[i]? = some (some w) ∧ i ∉ vs
  | [], h => ⟨h, by simp⟩
  | v :: vs, h => by
    unfold wipeE at h
    by_cases z : v = i
    · subst z
      rw [List.getElem?_set] at h
      simp only [if_true] at h
      split at h <;> cases h
    · rw [List.getElem?_set_ne z] at h
      obtain ⟨h1, h2⟩ := wipeE_get h
      exact ⟨h1, fun hm => by rcases List.mem_cons.mp hm with q | q; exact z q.symm; exact h2 q⟩
theorem wipe_wipe (σ : St) (vs : List Nat) : wipe (wipe σ vs) vs = wipe σ vs := by
  apply List.ext_getElem?
  intro i
  by_cases h : i ∈ vs
  · have key : ∀ (us : List Nat) (τ : St), i ∈ us → (wipe τ us)[i]? = if i < τ.length then some none else none := by
      intro us
      induction us with
      | nil => intro τ hm; cases hm
      | cons u us ih =>
        intro τ hm
        unfold wipe
        by_cases z : u = i
        · rw [z, List.getElem?_set]
          simp only [if_true, wipe_length]
        · rw [List.getElem?_set_ne z]
          exact ih τ ((List.mem_cons.mp hm).resolve_left fun q => z q.symm)
    rw [key vs _ h, key vs _ h, wipe_length]
  · have key : ∀ (us : List Nat) (τ : St), i ∉ us → (wipe τ us)[i]? = τ[i]? := by
      intro us
      induction us with
      | nil => intro τ _; rfl
      | cons u us ih =>
        intro τ hm
        unfold wipe
        rw [List.getElem?_set_ne (fun z => hm (by rw [z]; exact List.mem_cons_self))]
        exact ih τ fun z => hm (List.mem_cons_of_mem _ z)
    rw [key vs _ h]
theorem wipeE_length {env : En} : ∀ {vs : List Nat}, (wipeE env vs).length = env.length
  | [] => rfl
  | v :: vs => by unfold wipeE; rw [List.length_set, wipeE_length]
theorem wipe_get {σ : St} {i : Nat} : ∀ {vs : List Nat}, i ∉ vs → (wipe σ vs)[i]? = σ[i]?
  | [], _ => rfl
  | v :: vs, h => by
    unfold wipe
    have ne : v ≠ i := fun z => h (by rw [z]; exact List.mem_cons_self)
    rw [List.getElem?_set_ne ne]
    exact wipe_get fun z => h (List.mem_cons_of_mem _ z)
theorem RelE.wipe {K : PySem.W.Frag} {H : Hp} {ρ : Pl} {st : Sto} {σ : St} {env : En} (h : RelE K H ρ st σ env) (vs : List Nat) : RelE K H ρ st (L2.wipe σ vs) (wipeE env vs) :=
  ⟨by rw [wipeE_length, wipe_length]; exact h.1, fun i w e => by
    obtain ⟨h1, h2⟩ := wipeE_get e
    obtain ⟨v, q, r⟩ := h.2 i w h1
    exact ⟨v, by rw [wipe_get h2]; exact q, r⟩⟩
theorem R.bind_assoc {α β γ : Type} (r : R α) (f : α → Sto → R β) (g : β → Sto → R γ) : (r.bind f).bind g = r.bind fun a s => (f a s).bind g := by cases r <;> rfl
theorem lcL_F {g : W → En → Option En} {t : Bx} {e : Ex} {env : En} {ws : List W} : ∀ (n i : Nat) (acc : List W) (st : Sto), ws.length < n + i → i ≤ ws.length → acc.length ≤ i → ws.length < 10000000 →
    lcF (fun i _ => some ws[i]?) g t e env n i acc st = (lcL g t e env (ws.drop i) st).bind fun ys s => .ok (acc ++ ys) s := by
  intro n
  induction n with
  | zero => intro i acc st h1 h2; omega
  | succ n ih =>
    intro i acc st h1 h2 h3 h4
    by_cases hi : i < ws.length
    · rw [List.drop_eq_getElem_cons hi]
      have e1 : ws[i]? = some ws[i] := by simp [hi]
      unfold lcF lcL
      simp only [e1]
      cases hg : g ws[i] env with
      | none => rfl
      | some env1 =>
        simp only
        rw [R.bind_assoc]
        congr 1
        funext k s1
        cases k with
        | false =>
          simp only [Bool.false_eq_true, if_false]
          exact ih (i + 1) acc s1 (by omega) (by omega) (by omega) h4
        | true =>
          simp only [if_true]
          rw [R.bind_assoc]
          congr 1
          funext y s2
          rw [if_pos (ck_iff.mpr (by omega)), ih (i + 1) (acc ++ [y]) s2 (by omega) (by omega) (by simp; omega) h4, R.bind_assoc]
          congr 1
          funext ys s3
          simp
    · have e1 : ws[i]? = none := List.getElem?_eq_none_iff.mpr (by omega)
      have ed : ws.drop i = [] := List.drop_eq_nil_of_le (by omega)
      rw [ed]
      unfold lcF lcL
      simp only [e1]
      simp
/-- the list made is never changed any more -/
def lcE (vs : List Nat) (m : Ix) (g : W → En → Option En) (t : Bx) (e : Ex) : Ex := fun env st => (lcS vs m g t e env st).bind fun ws s => .ok (.fl ws) s
/-- the list made has a place -/
def lcPF (f : Nat → Sto → Option (Option W)) (g : W → En → Option En) (t : Bx) (e : Ex) (env : En) (l : Nat) : Nat → Nat → Sto → R W
  | 0, _, _ => .no
  | n + 1, i, st => match f i st with
    | some (some w) => match g w env with
      | some env1 => (t env1 st).bind fun k s1 => if k = true then (e env1 s1).bind fun y s2 => match s2[l]? with
        | some (.lst acc) => if ck (acc.length < 10000000) = true then lcPF f g t e env l n (i + 1) (s2.set l (.lst (acc ++ [y]))) else .no
        | _ => .no else lcPF f g t e env l n (i + 1) s1
      | none => .no
    | some none => .ok (.loc l) st
    | none => .no
def lcP (vs : List Nat) (m : Ix) (g : W → En → Option En) (t : Bx) (e : Ex) : Ex := fun env st => (m env st).bind fun src s1 => lcPF src.at g t e (wipeE env vs) s1.length src.n 0 (s1 ++ [.lst []])
variable {mi : Ix} {gV : TG} {g : W → En → Option En} {kt : Bx} {own : List Nat}
theorem tLc_of (ct : CT C.K own gV g) {σ : St} {H : Hp} {Q : VK} (h : tM C E (lcE own mi g kt ma) σ H Q) : tLc (tMI C E mi) gV (tMB C E kt) (tM C E ma) own σ H Q := by
  obtain ⟨ρ, st, env, re, S, p⟩ := h
  unfold lcE lcS at p
  rw [R.bind_assoc] at p
  refine ⟨ρ, st, env, re, S, Post.bind (rel := relSrc C) p fun src s1 H1 ρ1 J hj e1 S1 rj p1 => fun D hD => ?_⟩
  have re1 := (re.evo e1 S.liv).wipe own
  have p2 : Post (relW C) C E H1 ρ1 s1 ((lcF src.at g kt ma (wipeE env own) src.n 0 [] s1).bind fun ws s => .ok (.fl ws) s) Q := by
    cases src with
    | st ws =>
      simp only at p1
      split at p1
      · rename_i hl
        have hl := ck_iff.mp hl
        have q := lcL_F (g := g) (t := kt) (e := ma) (env := wipeE env own) (ws := ws) (ws.length + 1) 0 [] s1 (by omega) (by omega) (by simp) hl
        rw [List.drop_zero] at q
        show Post (relW C) C E H1 ρ1 s1 ((lcF (fun i _ => some ws[i]?) g kt ma (wipeE env own) (ws.length + 1) 0 [] s1).bind fun ws s => .ok (.fl ws) s) Q
        rw [q, R.bind_assoc]
        simpa using p1
      · exact p1.elim
    | dy n f => exact p1
  have e0 : Evo H1 ρ1 s1 (upd H1 D (.lst [])) (ρ1.hide D) s1 := Evo.hide hD
  refine ⟨fun i m H' => ∃ ρ' st' acc vacc, Evo H1 ρ1 s1 H' ρ' st' ∧ RelS C H' ρ' st' ∧ RelE C.K H' ρ' st' (wipe σ own) (wipeE env own) ∧ H' D = some (.lst vacc) ∧ D ∈ ρ'.hd ∧ RepL C.K H' ρ' st' vacc acc ∧
      Post (relW C) C E H1 ρ1 s1 ((lcF src.at g kt ma (wipeE env own) m i acc st').bind fun ws s => .ok (.fl ws) s) Q,
    ⟨src.n, ρ1.hide D, s1, [], [], e0, S1.hide hD trivial, re1.evo e0 S1.liv, upd_same, List.mem_cons_self, .nil, p2⟩, ?_⟩
  rintro i m H' ⟨ρ', st', acc, vacc, ev, S', re', hD', hm', ra, pp⟩
  cases m with
  | zero => exact pp.elim
  | succ n =>
    unfold lcF at pp
    cases ei : src.at i st' with
    | none => rw [ei] at pp; exact pp.elim
    | some o =>
      have q := rj H' ρ' st' ev S' i o ei
      rw [ei] at pp
      cases o with
      | none =>
        refine .inl ⟨q, pp H' (ρ'.show D) _ ⟨ev.pre, ev.dd, ev.keep, ev.new, ev.dom, fun a h => ev.newh a (show_sub h), fun a h => show_mem (ev.oldh a h) fun z => ?_⟩ S'.shown (.fl hD' ⟨fun l q => absurd q ((S'.hid D hm').2 l), show_not⟩ ra.shown)⟩
        obtain ⟨⟨u, e, _⟩, _⟩ := S1.hid a h
        rw [z, hD] at e; cases e
      | some w =>
        simp only at pp
        cases eg : g w (wipeE env own) with
        | none => rw [eg] at pp; exact pp.elim
        | some env1 =>
          rw [eg] at pp
          simp only [R.bind_assoc] at pp
          refine .inr ⟨q.1, fun H' => ∃ ρ' st' acc vacc, Evo H1 ρ1 s1 H' ρ' st' ∧ RelS C H' ρ' st' ∧ RelE C.K H' ρ' st' (wipe σ own) (wipeE env own) ∧ H' D = some (.lst vacc) ∧ D ∈ ρ'.hd ∧ RepL C.K H' ρ' st' vacc acc ∧
            Post (relW C) C E H1 ρ1 s1 ((lcF src.at g kt ma (wipeE env own) n (i + 1) acc st').bind fun ws s => .ok (.fl ws) s) Q, fun H' q => ⟨n, Nat.lt_succ_self n, q⟩, fun x H2 hy => ?_⟩
          obtain ⟨ev2, S2, rx⟩ := q.2 x H2 hy
          have on : ∀ {H3 ρ3 s3}, Evo H' ρ' st' H3 ρ3 s3 → Evo H1 ρ1 s1 H3 ρ3 s3 ∧ RelE C.K H3 ρ3 s3 (wipe σ own) (wipeE env own) ∧ H3 D = some (.lst vacc) ∧ D ∈ ρ3.hd ∧ RepL C.K H3 ρ3 s3 vacc acc := fun {H3 ρ3 s3} e3 =>
            ⟨ev.trans e3, re'.evo e3 S'.liv, e3.keep D _ hD' (fun l q => absurd q ((S'.hid D hm').2 l)), e3.oldh D hm', ra.evo e3 S'.liv⟩
          refine ct.ok H2 ρ' st' (wipe σ own) (wipeE env own) env1 x w _ (re'.evo ev2 S'.liv) rx eg fun σ1 re3 hw => ⟨hw.trans (wipe_wipe σ own), ?_⟩
          refine ⟨ρ', st', env1, re3, S2, Post.bindAt (rel := relB) pp (ev.trans ev2) fun k s3 H3 ρ3 kv hk e3 S3 rk p3 => ?_⟩
          have rk : kv = k := rk
          subst rk
          cases kv with
          | false =>
            refine (if_neg (by decide)).mpr ?_
            obtain ⟨a1, a2, a4, a5, a6⟩ := on (ev2.trans e3)
            exact ⟨ρ3, s3, acc, vacc, a1, S3, a2, a4, a5, a6, p3⟩
          | true =>
            refine (if_pos rfl).mpr ?_
            simp only [if_true, R.bind_assoc] at p3
            refine ⟨ρ3, s3, env1, re3.evo e3 S2.liv, S3, Post.bindAt (rel := relW C) p3 ((ev.trans ev2).trans e3) fun y s4 H4 ρ4 vy hy4 e4 S4 ry p4 => ?_⟩
            obtain ⟨a1, a2, a4, a5, a6⟩ := on ((ev2.trans e3).trans e4)
            split at p4
            · rename_i hl
              have hm : ∃ u, H4 D = some u ∧ isMutO u := ⟨_, a4, trivial⟩
              refine ⟨vacc, a4, by rw [a6.length]; exact Nat.lt_of_lt_of_le (ck_iff.mp hl) (by decide), ?_⟩
              refine ⟨ρ4, s4, acc ++ [y], vacc ++ [vy], ?_, S4.hidw a5 trivial, ?_, upd_same, a5, (a6.hidw a5 hm).append (.cons (ry.hidw a5 hm) .nil), p4⟩
              · have neD : ∀ b o, H1 b = some o → b ≠ D := fun b o hb z => by rw [z, hD] at hb; cases hb
                exact ⟨a1.pre, a1.dd, fun b o hb nl => by rw [upd_ne (neD b o hb)]; exact a1.keep b o hb nl, a1.new, fun b hb => by
                  by_cases z : b = D
                  · rw [z]; exact hD
                  · rw [upd_ne z] at hb; exact a1.dom b hb, a1.newh, a1.oldh⟩
              · exact ⟨a2.1, fun i w e => let ⟨v, q, r⟩ := a2.2 i w e; ⟨v, q, r.hidw a5 hm⟩⟩
            · exact p4.elim
variable {elt tg iter : Expr} {ifs : List Expr} {scope : Scope} {ownP : List (Str × Nat)}
/-- a comprehension, its list never changed -/
theorem me_lc {mt : Ex} (ct : CT C.K (ownP.map (·.2)) gV g) (hc : X.calm = true) (hN : X.N.Nodup) (hi : MI X C E tg iter mi) (ok : BlkOk X.N X.env.scope scope ownP)
    (hg : ∀ (s : Shared) (H : Hp) (C : Addr) (cl : List (Str × Addr)) (fp : List Addr), PG (X.blk s H scope (compEnvC scope cl C X.env) fp) tg gV) (ht : ∀ (s : Shared) (H : Hp) (Cc : Addr) (cl : List (Str × Addr)) (fp : List Addr), PTs (X.blk s H scope (compEnvC scope cl Cc X.env) fp) ifs (tMB C E kt))
    (he : ∀ (s : Shared) (H : Hp) (Cc : Addr) (cl : List (Str × Addr)) (fp : List Addr), ME (X.blk s H scope (compEnvC scope cl Cc X.env) fp) C E elt mt) (hs : ∀ x, foldedSetIterable iter X.env x = pure x := by intro _; rfl) :
    ME X C E (.ListComp elt [⟨tg, iter, ifs, 0⟩] scope pos) (lcE (ownP.map (·.2)) mi g kt mt) :=
  PE.imp (pe_lc hc hN hi ok hg ht he hs) fun _ _ _ h => tLc_of ct h
/-- name = [..] -/
theorem ms_setLc {mt : Ex} {i : Nat} {y : Str} {py spos : Pos} (ct : CT C.K (ownP.map (·.2)) gV g) (hc : X.calm = true) (hN : X.N.Nodup) (hy : X.N[i]? = some y) (hyl : X.env.scope.names.lookup y = some .local)
    (hsw : swapsWith (.ListComp elt [⟨tg, iter, ifs, 0⟩] scope pos) (some (.Name y py)) spos.line X.env = pure true) (hi : MI X C E tg iter mi) (ok : BlkOk X.N X.env.scope scope ownP)
    (hg : ∀ (s : Shared) (H : Hp) (C : Addr) (cl : List (Str × Addr)) (fp : List Addr), PG (X.blk s H scope (compEnvC scope cl C X.env) fp) tg gV) (ht : ∀ (s : Shared) (H : Hp) (Cc : Addr) (cl : List (Str × Addr)) (fp : List Addr), PTs (X.blk s H scope (compEnvC scope cl Cc X.env) fp) ifs (tMB C E kt))
    (he : ∀ (s : Shared) (H : Hp) (Cc : Addr) (cl : List (Str × Addr)) (fp : List Addr), ME (X.blk s H scope (compEnvC scope cl Cc X.env) fp) C E elt mt) (hs : ∀ x, foldedSetIterable iter X.env x = pure x := by intro _; rfl) :
    MS X C E (.Assign [.Name y py] (.ListComp elt [⟨tg, iter, ifs, 0⟩] scope pos) spos) (setS i (lcE (ownP.map (·.2)) mi g kt mt)) := by
  refine PS.imp (ps_setLc hc hN hy hyl hsw hi ok hg ht he hs) fun D σ H ⟨ρ, st, env, re, S, p⟩ => tLc_of ct ⟨ρ, st, env, re, S, PostS.bind (rel := relW C) p fun w s1 H1 ρ1 v hw e1 S1 r1 p1 => ?_⟩
  exact p1 H1 ρ1 _ (Evo.refl ..) S1 ((re.evo e1 S.liv).set r1 i)
theorem mts_nil {X' : Cx} : PTs X' [] (tMB C E yesB) := ⟨fun pins s σ H Q I ⟨ρ, st, env, re, S, p⟩ => pts_nil.run pins s σ H Q I (p H ρ true (Evo.refl ..) S rfl)⟩
theorem mts_one {X' : Cx} (h : MT X' C E c kt) : PTs X' [c] (tMB C E kt) := pts_one h
end

/-! ### defs -/
def pad (N : Nat) (ws : List W) : En := ws.map some ++ List.replicate (N - ws.length) none
def fin (r : SR) : R W := match r with
  | .nx _ s => .ok .non s
  | .rt w s => .ok w s
  | .ex c s => .ex c s
  | _ => .no
@[simp] theorem fin_nx (e : En) (s : Sto) : fin (.nx e s) = .ok .non s := rfl
@[simp] theorem fin_rt (w : W) (s : Sto) : fin (.rt w s) = .ok w s := rfl
@[simp] theorem fin_ex (c : Nat) (s : Sto) : fin (.ex c s) = .ex c s := rfl
@[simp] theorem fin_no : fin .no = .no := rfl
@[simp] theorem fin_ite (c : Prop) [Decidable c] (a b : SR) : fin (if c then a else b) = if c then fin a else fin b := by split <;> rfl
def bodyD (N : Nat) (m : Sx) : List W → Sto → R W := fun ws st => fin (m (pad N ws) st)
theorem RelE.start {K : PySem.W.Frag} {H : Hp} {ρ : Pl} {st : Sto} {vs : List V} {ws : List W} {N : List Str} (r : RepL K H ρ st vs ws) : RelE K H ρ st (L2.start N vs) (pad N.length ws) := by
  unfold L2.start pad
  rw [r.length]
  refine ⟨by simp [r.length], fun i w e => ?_⟩
  by_cases hi : i < ws.length
  · rw [List.getElem?_append_left (by simpa using hi), List.getElem?_map] at e
    cases q : ws[i]? with
    | none => rw [q] at e; cases e
    | some w' =>
      rw [q] at e; cases e
      obtain ⟨v, h1, h2⟩ := r.get q
      exact ⟨v, by rw [List.getElem?_append_left (by simpa [r.length] using hi), List.getElem?_map, h1]; rfl, h2⟩
  · rw [List.getElem?_append_right (by simpa using Nat.le_of_not_lt hi), List.getElem?_replicate] at e
    split at e <;> cases e
theorem fn_ok {P : Program} {w : World} {K : PySem.W.Frag} {mg : Str → Option Value} {base : Heap} {C : MC} {k n : Nat} {f : Addr} {x qual : Str} {s : Stmt} {fd : FuncData} {N ps : List Str} {m : Sx} (F : Fun K x qual s f fd) (S : FnScope N ps (defScope s)) (hK : C.K = K) (hn : ps.length = n)
    (body : ∀ (cdv : Value) (A : Around) (outer : List Env) (sh : Shared) (H : Hp) (E : XK), Room k (A.deeper (PyProof.Rows.envOfC qual (defScope s) sh.heap.objs.size f cdv)) → MSs (cxOf CX0 P w K mg base N qual (defScope s) f cdv A outer sh H E).nox C E0 (defBody s) m) :
    FnOk P w K mg base CX0 (k + 1) f fd ps (sp0 C n (bodyD N.length m)) := by
  refine F.ok S (fun vs H Q E h => by rw [hn]; exact h.1) fun cdv A outer sh H vs Q E hr ⟨hl, ρ, st, ws, r, S, p⟩ => ⟨tMS C E0 m, body cdv A outer sh H E hr, ρ, st, pad N.length ws, .start r, S, ?_⟩
  unfold bodyD at p
  cases h : m (pad N.length ws) st with
  | nx e s => rw [h] at p; exact fun H' ρ' σ' e' S' _ => p H' ρ' .non e' S' .non
  | rt w s => rw [h] at p; exact p
  | ex c s => rw [h] at p; exact p
  | bk e s => rw [h] at p; exact p.elim
  | ct e s => rw [h] at p; exact p.elim
  | no => rw [h] at p; exact p.elim
end
end ML

/-! ML7: what a def is worth to its callers; the law -/
namespace ML
open PySem L2
noncomputable section
mutual
/-- the places in w are below n -/
def W.wf (n : Nat) : W → Bool
  | .loc l => decide (l < n)
  | .tup ws => wfL n ws
  | .fl ws => wfL n ws
  | .kl ws => wfL n ws
  | _ => true
def wfL (n : Nat) : List W → Bool
  | [] => true
  | w :: ws => w.wf n && wfL n ws
end
def wfK (n : Nat) : List (Key × W) → Bool
  | [] => true
  | p :: ps => p.2.wf n && wfK n ps
def wfF (n : Nat) : List (Option W) → Bool
  | [] => true
  | none :: ps => wfF n ps
  | some w :: ps => w.wf n && wfF n ps
def O.wf (n : Nat) : O → Bool
  | .dead => true
  | .lst ws => wfL n ws
  | .ins _ fs => wfF n fs
  | .dct kvs => wfK n kvs
theorem wfF_at {n : Nat} : ∀ {fs : List (Option W)} {i : Nat} {w : W}, wfF n fs = true → fs[i]? = some (some w) → w.wf n = true
  | [], _, _, _, h => by simp at h
  | none :: fs, 0, w, _, h => by simp at h
  | none :: fs, i + 1, w, q, h => wfF_at (fs := fs) q (by simpa using h)
  | some x :: fs, 0, w, q, h => by
    simp only [wfF, Bool.and_eq_true] at q
    simp at h
    rw [← h]; exact q.1
  | some x :: fs, i + 1, w, q, h => by
    simp only [wfF, Bool.and_eq_true] at q
    exact wfF_at (fs := fs) q.2 (by simpa using h)
theorem wfF_of {n : Nat} : ∀ {fs : List (Option W)}, (∀ (i : Nat) (w : W), fs[i]? = some (some w) → w.wf n = true) → wfF n fs = true
  | [], _ => rfl
  | none :: fs, h => wfF_of (fs := fs) fun i w q => h (i + 1) w (by simpa using q)
  | some x :: fs, h => by
    simp only [wfF, Bool.and_eq_true]
    exact ⟨h 0 x (by simp), wfF_of (fs := fs) fun i w q => h (i + 1) w (by simpa using q)⟩
section
variable {K : PySem.W.Frag} {C : MC} {H : Hp} {ρ : Pl} {st : Sto}
mutual
theorem Rep.wf : ∀ {v : V} {w : W}, Rep K H ρ st v w → w.wf ρ.pl.length = true
  | _, _, .non => by simp [W.wf]
  | _, _, .bl b => by simp [W.wf]
  | _, _, .int i => by simp [W.wf]
  | _, _, .str x => by simp [W.wf]
  | _, _, .raw v => by simp [W.wf]
  | _, _, .tup h r => by simp only [W.wf]; exact RepL.wf r
  | _, _, .fl h n r => by simp only [W.wf]; exact RepL.wf r
  | _, _, .kl h r => by simp only [W.wf]; exact RepL.wf r
  | _, _, .loc h => by simp only [W.wf]; exact decide_eq_true (List.getElem?_eq_some_iff.mp h).1
theorem RepL.wf : ∀ {vs : List V} {ws : List W}, RepL K H ρ st vs ws → wfL ρ.pl.length ws = true
  | _, _, .nil => by simp [wfL]
  | _, _, .cons h r => by simp only [wfL, Bool.and_eq_true]; exact ⟨Rep.wf h, RepL.wf r⟩
end
theorem RepK.wf : ∀ {kvs : List (Key × V)} {kws : List (Key × W)}, RepK K H ρ st kvs kws → wfK ρ.pl.length kws = true
  | [], [], _ => rfl
  | (k, v) :: kvs, (j, w) :: kws, h => by simp only [wfK, Bool.and_eq_true]; exact ⟨h.2.1.wf, RepK.wf h.2.2⟩
  | [], _ :: _, h => h.elim
  | _ :: _, [], h => h.elim
theorem RelS.wf (S : RelS C H ρ st) {l : Nat} {o : O} (h : st[l]? = some o) : o.wf st.length = true := by
  obtain ⟨a, q, r⟩ := S.addr h
  rw [← S.len]
  cases o with
  | dead => rfl
  | lst ws => obtain ⟨vs, _, r⟩ := r; exact r.wf
  | ins c fs =>
    obtain ⟨Cd, nm, dx, fvs, _, _, r1, r2, _⟩ := r
    refine wfF_of fun i w e => ?_
    have hi := (List.getElem?_eq_some_iff.mp e).1
    rw [r1] at hi
    obtain ⟨v, _, r⟩ := r2 i nm[i] w (by simp [hi]) e
    exact r.wf
  | dct kws => obtain ⟨vs, _, r⟩ := r; exact RepK.wf r
/-- the last places are given up, where nothing leans on them -/
structure Cut (ρ : Pl) (st : Sto) (n : Nat) (ρ1 : Pl) (s1 : Sto) : Prop where
  pl : ∀ l : Nat, l < n → ρ1.pl[l]? = ρ.pl[l]?
  st : ∀ l : Nat, l < n → s1[l]? = st[l]?
  lp : ρ1.pl.length = n
  ls : s1.length = n
  hd : ρ1.hd = ρ.hd
variable {n : Nat} {ρ1 : Pl} {s1 : Sto}
theorem NL.cut (c : Cut ρ st n ρ1 s1) {a : Addr} (h : NL ρ st a) : NL ρ1 s1 a :=
  ⟨fun l q => by
    have hl := (List.getElem?_eq_some_iff.mp q).1
    rw [c.lp] at hl
    rw [c.pl l hl] at q
    rw [c.st l hl]
    exact h.1 l q, by rw [c.hd]; exact h.2⟩
mutual
theorem Rep.cut (c : Cut ρ st n ρ1 s1) : ∀ {v : V} {w : W}, Rep K H ρ st v w → w.wf n = true → Rep K H ρ1 s1 v w
  | _, _, .non, _ => .non
  | _, _, .bl b, _ => .bl b
  | _, _, .int i, _ => .int i
  | _, _, .str x, _ => .str x
  | _, _, .raw v, _ => .raw v
  | _, _, .tup h r, q => .tup h (RepL.cut c r (by simpa [W.wf] using q))
  | _, _, .fl h n r, q => .fl h (n.cut c) (RepL.cut c r (by simpa [W.wf] using q))
  | _, _, .kl h r, q => .kl (by
      rcases h with ⟨h, n⟩ | h
      · exact .inl ⟨h, n.cut c⟩
      · exact .inr h) (RepL.cut c r (by simpa [W.wf] using q))
  | _, _, .loc h, q => .loc (by rw [c.pl _ (by simpa [W.wf] using q)]; exact h)
theorem RepL.cut (c : Cut ρ st n ρ1 s1) : ∀ {vs : List V} {ws : List W}, RepL K H ρ st vs ws → wfL n ws = true → RepL K H ρ1 s1 vs ws
  | _, _, .nil, _ => .nil
  | _, _, .cons h r, q => by
    simp only [wfL, Bool.and_eq_true] at q
    exact .cons (Rep.cut c h q.1) (RepL.cut c r q.2)
end
theorem RepK.cut (c : Cut ρ st n ρ1 s1) : ∀ {kvs : List (Key × V)} {kws : List (Key × W)}, RepK K H ρ st kvs kws → wfK n kws = true → RepK K H ρ1 s1 kvs kws
  | [], [], _, _ => trivial
  | (k, v) :: kvs, (j, w) :: kws, h, q => by
    simp only [wfK, Bool.and_eq_true] at q
    exact ⟨h.1, h.2.1.cut c q.1, RepK.cut c h.2.2 q.2⟩
  | [], _ :: _, h, _ => h.elim
  | _ :: _, [], h, _ => h.elim
theorem RelS.cut (S : RelS C H ρ st) (c : Cut ρ st n ρ1 s1) (hw : ∀ (l : Nat) (o : O), s1[l]? = some o → o.wf n = true) : RelS C H ρ1 s1 := by
  have at_ : ∀ {l : Nat} {a : Addr}, ρ1.pl[l]? = some a → l < n ∧ ρ.pl[l]? = some a := fun {l a} h => by
    have hl := (List.getElem?_eq_some_iff.mp h).1
    rw [c.lp] at hl
    exact ⟨hl, by rw [← c.pl l hl]; exact h⟩
  refine ⟨c.lp.trans c.ls.symm, fun l m a h1 h2 => S.inj l m a (at_ h1).2 (at_ h2).2, fun l a o h e => ?_, fun a h => ?_⟩
  · obtain ⟨hl, ha⟩ := at_ h
    have wo := hw l o e
    rw [c.st l hl] at e
    have q := S.obj l a o ha e
    cases o with
    | dead => exact q
    | lst ws => obtain ⟨vs, q, r⟩ := q; exact ⟨vs, q, r.cut c wo⟩
    | ins cc fs => obtain ⟨Cd, nm, dx, fvs, q1, q2, r1, r2, r3⟩ := q; exact ⟨Cd, nm, dx, fvs, q1, q2, r1, fun i f w a b => let ⟨v, e, r⟩ := r2 i f w a b; ⟨v, e, r.cut c (wfF_at wo b)⟩, r3⟩
    | dct kws => obtain ⟨kvs, q, r⟩ := q; exact ⟨kvs, q, RepK.cut c r wo⟩
  · rw [c.hd] at h
    obtain ⟨q1, q2⟩ := S.hid a h
    exact ⟨q1, fun l z => q2 l (at_ z).2⟩
end
/-- d' is what callers know of d: the same value, places that nothing leans on left out -/
def Gc (n : Nat) (d d' : List W → Sto → R W) : Prop := ∀ (ws : List W) (st : Sto), ws.length = n → wfL st.length ws = true → match d' ws st with
  | .ok w st' => ∃ s2, d ws st = .ok w (st' ++ s2) ∧ st.length ≤ st'.length ∧ (s2 = [] ∨ (w.wf st'.length = true ∧ ∀ (l : Nat) (o : O), st'[l]? = some o → st[l]? = some o ∨ o.wf st'.length = true))
  | .ex c s => d ws st = .ex c s
  | .no => True
theorem Gc.pure {n : Nat} {d d' : List W → Sto → R W} (h : ∀ ws st w st', ws.length = n → wfL st.length ws = true → d' ws st = .ok w st' → st' = st ∧ w.wf st.length = true ∧ ∃ s2, d ws st = .ok w (st ++ s2)) (hx : ∀ ws st c s, d' ws st ≠ .ex c s) : Gc n d d' := by
  intro ws st hl hw
  cases e : d' ws st with
  | ok w st' =>
    obtain ⟨rfl, h2, s2, h3⟩ := h ws st w st' hl hw e
    exact ⟨s2, h3, Nat.le_refl _, .inr ⟨h2, fun l o q => .inl q⟩⟩
  | ex c s => exact absurd e (hx ws st c s)
  | no => exact True.intro
theorem wf_mono {n m : Nat} (h : n ≤ m) : (∀ w : W, w.wf n = true → w.wf m = true) := by
  intro w
  refine W.rec (motive_1 := fun w => w.wf n = true → w.wf m = true) (motive_2 := fun ws => wfL n ws = true → wfL m ws = true) ?_ ?_ ?_ ?_ ?_ ?_ ?_ ?_ ?_ ?_ ?_ w
  · intro _; simp [W.wf]
  · intro _ _; simp [W.wf]
  · intro _ _; simp [W.wf]
  · intro _ _; simp [W.wf]
  · intro _ _; simp [W.wf]
  · intro ws ih q; simp only [W.wf] at q ⊢; exact ih q
  · intro ws ih q; simp only [W.wf] at q ⊢; exact ih q
  · intro ws ih q; simp only [W.wf] at q ⊢; exact ih q
  · intro l q
    simp only [W.wf, decide_eq_true_eq] at q ⊢
    omega
  · intro _; simp [wfL]
  · intro w ws i1 i2 q
    simp only [wfL, Bool.and_eq_true] at q ⊢
    exact ⟨i1 q.1, i2 q.2⟩
theorem wfL_mono {n m : Nat} (h : n ≤ m) {ws : List W} (q : wfL n ws = true) : wfL m ws = true := by
  have := wf_mono h (.tup ws) (by simpa [W.wf] using q)
  simpa [W.wf] using this
theorem O.wf_mono {n m : Nat} (h : n ≤ m) {o : O} (q : o.wf n = true) : o.wf m = true := by
  cases o with
  | dead => rfl
  | lst ws => exact wfL_mono h q
  | ins c fs => exact wfF_of fun i w e => ML.wf_mono h w (wfF_at (show wfF n fs = true from q) e)
  | dct kvs =>
    have key : ∀ kvs : List (Key × W), wfK n kvs = true → wfK m kvs = true := by
      intro kvs
      induction kvs with
      | nil => intro _; rfl
      | cons p ps ih =>
        intro q
        simp only [wfK, Bool.and_eq_true] at q ⊢
        exact ⟨ML.wf_mono h _ q.1, ih q.2⟩
    exact key kvs q
theorem fn_spec {P : Program} {w : World} {K : PySem.W.Frag} {mg : Str → Option Value} {base : Heap} {CX : CXT} {C : MC} {k n : Nat} {f : Addr} {fd : FuncData} {ps : List Str} {d d' : List W → Sto → R W} (F : FnOk P w K mg base CX k f fd ps (sp0 C n d)) (g : Gc n d d') :
    FnOk P w K mg base CX k f fd ps (sp0 C n d') := by
  refine F.imp fun vs H Q E ⟨hl, ρ, st, ws, r, S, p⟩ => ⟨hl, ρ, st, ws, r, S, ?_⟩
  have q := g ws st (by rw [← r.length]; exact hl) (by rw [← S.len]; exact r.wf)
  cases e : d' ws st with
  | no => rw [e] at p; exact p.elim
  | ex c s => rw [e] at p q; rw [q]; exact p
  | ok x st' =>
    rw [e] at p q
    obtain ⟨s2, h1, h2, h3⟩ := q
    rw [h1]
    intro H' ρ' v ev S' rv
    rcases h3 with h3 | ⟨h3, h4⟩
    · rw [h3, List.append_nil] at ev S' rv
      exact p H' ρ' v ev S' rv
    · have c : Cut ρ' (st' ++ s2) st'.length ⟨ρ'.pl.take st'.length, ρ'.hd⟩ st' := by
        have ln := S'.len
        rw [List.length_append] at ln
        refine ⟨fun l hl => by simp [List.getElem?_take, hl], fun l hl => by rw [List.getElem?_append_left hl], ?_, rfl, rfl⟩
        show (ρ'.pl.take st'.length).length = _
        rw [List.length_take]
        omega
      refine p H' ⟨ρ'.pl.take st'.length, ρ'.hd⟩ v ⟨fun l a h => ?_, fun l h => ?_, ev.keep, fun l a h => ?_, ev.dom, ev.newh, ev.oldh⟩ (S'.cut c fun l o e2 => ?_) (rv.cut c h3)
      · have hl : l < st'.length := by
          have := (List.getElem?_eq_some_iff.mp h).1
          rw [S.len] at this
          omega
        rw [c.pl l hl]
        exact ev.pre l a h
      · have hl : l < st'.length := by
          have := (List.getElem?_eq_some_iff.mp h).1
          omega
        rw [c.st l hl]
        exact ev.dd l h
      · have hl := (List.getElem?_eq_some_iff.mp h).1
        rw [c.lp] at hl
        rw [c.pl l hl] at h
        exact ev.new l a h
      · rcases h4 l o e2 with q | q
        · exact O.wf_mono h2 (S.wf q)
        · exact q
/-! ### the law -/
def spLaw (K : PySem.W.Frag) : Sp := fun vs H Q _ => ∃ (a : Addr) (ns : List Int), vs = [.ref a] ∧ SqL K H a (ns.map V.int) ∧ ns.length ≤ 63 ∧ ∀ H', Q (.bl true) H'
theorem law_ok {P : Program} {w : World} {K : PySem.W.Frag} {mg : Str → Option Value} {base : Heap} {CX : CXT} {C : MC} {k : Nat} {f : Addr} {fd : FuncData} {ps : List Str} {d : List W → Sto → R W} (hK : C.K = K) (F : FnOk P w K mg base CX k f fd ps (sp0 C 1 d))
    (h : ∀ ns : List Int, ns.length ≤ 63 → ∃ st', d [.kl (ns.map W.int)] [] = .ok (.bl true) st') : FnOk P w K mg base CX k f fd ps (spLaw K) := by
  refine F.imp fun vs H Q E ⟨a, ns, ev, hS, hl, hQ⟩ => ?_
  obtain ⟨st', hd⟩ := h ns hl
  subst hK
  refine ⟨by rw [ev]; rfl, ⟨[], []⟩, [], [.kl (ns.map W.int)], ?_, ⟨rfl, fun l m a h => by simp at h, fun l a o h => by simp at h, fun a h => by simp at h⟩, ?_⟩
  · rw [ev]
    refine .cons (.kl ?_ (repL_ints ns)) .nil
    rcases hS with (q | q) | q
    · exact .inl ⟨q, fun l h => by simp at h, by simp⟩
    · exact .inr (.inl q)
    · exact .inr (.inr (.inr q))
  · rw [hd]
    intro H' ρ' v _ _ r
    cases r
    exact hQ H'
end
end ML

/-! ML8: more rules -/
namespace ML
open PySem L2
noncomputable section
section
variable {X : Cx} {C : MC} {E : XK} {a b c e o value : Expr} {ma mb mc mo mv : Ex} {pos pos' tpos : Pos} {es : List Expr} {mr : Ax}
/-! ### o.f among several targets -/
def setFd (c j : Nat) (x w : W) (s : Sto) : R Unit := match x with
  | .loc l => match s[l]? with
    | some (.ins c' fs) => if c' = c then .ok () (s.set l (.ins c' (fs.set j (some w)))) else .no
    | _ => .no
  | _ => .no
def gFd (c j : Nat) (o : Ex) : W → En → Sto → R En := fun w env st => (o env st).bind fun x s1 => (setFd c j x w s1).bind fun _ s2 => .ok env s2
theorem mg_fld {c j : Nat} {Cd : Addr} {nm : List Str} {f : Str} (hc : C.cls[c]? = some (Cd, nm)) (nd : nm.Nodup) (hl : nm.length < 1000) (hj : nm[j]? = some f) (cl : Cls X.K Cd) (na : NoAttr X.K Cd f) (ho : ME X C E o mo) : MG X C E (.Attribute o f pos) (gFd c j mo) := by
  refine ⟨fun pins s σ H v u Q I r ⟨ρ, st, env, w, re, S, rw_, p⟩ => ?_⟩
  rw [assign_Attribute]
  have h1 : tM C E mo σ H fun x H1 => ∃ a dx fvs, x = .ref a ∧ H1 a = some (.ins Cd dx fvs) ∧ fvs.length < 1000 ∧ Q σ (upd H1 a (.ins Cd dx (putF f v fvs))) := by
    refine ⟨ρ, st, env, re, S, Post.bind p fun x s1 H1 ρ1 vx hx e1 S1 r1 p1 => ?_⟩
    unfold setFd at p1
    split at p1
    · split at p1
      · rename_i c' fs es
        split at p1
        · rename_i ec
          subst ec
          cases r1 with
          | @loc a l q =>
            obtain ⟨Cd', nm', dx, fvs, q1, q2, q3⟩ := S1.obj _ a _ q es
            rw [hc] at q1; cases q1
            obtain ⟨ev, S3⟩ := ins_write (dx := dx) S1 hc nd hj q es q3 (rw_.evo e1 S.liv)
            exact ⟨a, dx, fvs, rfl, q2, q3.small hl, p1 _ ρ1 σ ev S3 ((re.evo e1 S.liv).evo ev S1.liv)⟩
        · exact p1.elim
      · exact p1.elim
    · exact p1.elim
  refine wpAny_bind (wpAny_holding (thn (ho.run pins s σ H _ I h1) fun ov s1 ⟨x, H1, I1, r1, a, dx, fvs, ex, ea, hs, q⟩ => ?_))
  subst ex
  have eo : ov = Value.ref a := r1
  subst eo
  exact wpAny_bind (wpAny_standAt (wpAny_bind (wpAny_holding (setattr_ok I1 ea cl na hs r fun s3 I3 => wpAny_release ⟨σ, _, I3, q⟩))))
/-! ### in, of data at any depth -/
def rInU (K : PySem.W.Frag) (neg : Bool) : R2 := fun x y H Q => ∃ d ds, Dp K H x d ∧ (Dp K H y (.list ds) ∨ Dp K H y (.tuple ds)) ∧ SeqAt.shaped d = true ∧ SeqAt.shaped (.list ds) = true ∧ Q (.bl (if neg then !ds.any fun z => PyData.eqv z d else ds.any fun z => PyData.eqv z d)) H
theorem room_in {A : Around} {d : PyData} {ds : List PyData} (sd : SeqAt.shaped d = true) (hu : A.units + 65 < cLine) : A.units + 1 + min d.depth (PyData.depthAll ds) < cLine := by
  have h1 := SeqAt.depth_of_shaped sd
  have h2 : min d.depth (PyData.depthAll ds) ≤ d.depth := Nat.min_le_left _ _
  omega
theorem op_inU (hu : X.A.units + 65 < cLine) : OpR X (compareOp .In) (rInU X.K false) := by
  intro pins s σ H x y v u Q I rx ry ⟨d, ds, hd, he, sd, se, q⟩
  obtain ⟨as, r1⟩ := Dp.reads I d x v hd rx
  rcases he with he | he
  · obtain ⟨bs, r2⟩ := Dp.reads I (.list ds) y u he ry
    exact SeqAt.in_list_reads r2 r1 (SeqAt.canLay_of_shaped se) (SeqAt.canLay_of_shaped sd) (by have := SeqAt.depth_of_shaped sd; have : min (PyData.depthAll ds) d.depth ≤ d.depth := Nat.min_le_right _ _; omega) ⟨.bl _, H, I, rfl, q⟩
  · obtain ⟨bs, r2⟩ := Dp.reads I (.tuple ds) y u he ry
    exact SeqAt.in_tuple_reads r2 r1 (SeqAt.canLay_of_shaped se) (SeqAt.canLay_of_shaped sd) (by have := SeqAt.depth_of_shaped sd; have : min (PyData.depthAll ds) d.depth ≤ d.depth := Nat.min_le_right _ _; omega) ⟨.bl _, H, I, rfl, q⟩
theorem op_ninU (hu : X.A.units + 65 < cLine) : OpR X (compareOp .NotIn) (rInU X.K true) := by
  intro pins s σ H x y v u Q I rx ry ⟨d, ds, hd, he, sd, se, q⟩
  obtain ⟨as, r1⟩ := Dp.reads I d x v hd rx
  rcases he with he | he
  · obtain ⟨bs, r2⟩ := Dp.reads I (.list ds) y u he ry
    exact SeqAt.notIn_list_reads r2 r1 (SeqAt.canLay_of_shaped se) (SeqAt.canLay_of_shaped sd) (by have := SeqAt.depth_of_shaped sd; have : min (PyData.depthAll ds) d.depth ≤ d.depth := Nat.min_le_right _ _; omega) ⟨.bl _, H, I, rfl, q⟩
  · obtain ⟨bs, r2⟩ := Dp.reads I (.tuple ds) y u he ry
    exact SeqAt.notIn_tuple_reads r2 r1 (SeqAt.canLay_of_shaped se) (SeqAt.canLay_of_shaped sd) (by have := SeqAt.depth_of_shaped sd; have : min (PyData.depthAll ds) d.depth ≤ d.depth := Nat.min_le_right _ _; omega) ⟨.bl _, H, I, rfl, q⟩
def datItems (s : Sto) (y : W) : Option (List PyData) := match datS s 3 y with
  | some (.list ds) => some ds
  | some (.tuple ds) => some ds
  | _ => none
def inDW (neg : Bool) (x y : W) (s : Sto) : R W := match datS s 3 x, datItems s y with
  | some d, some ds => if SeqAt.shaped d = true ∧ SeqAt.shaped (.list ds) = true then .ok (.bl (if neg then !ds.any fun z => PyData.eqv z d else ds.any fun z => PyData.eqv z d)) s else .no
  | _, _ => .no
theorem om_inU {neg : Bool} : OpM C E (rInU C.K neg) (inDW neg) := by
  intro H ρ st v u x y Q S rx ry p
  unfold inDW at p
  split at p
  · rename_i d ds e1 e2
    split at p
    · rename_i h
      refine ⟨d, ds, datS_rep S 3 x v d rx e1, ?_, h.1, h.2, p H ρ _ (Evo.refl ..) S (.bl _)⟩
      unfold datItems at e2
      split at e2
      · rename_i e3; cases e2; exact .inl (datS_rep S 3 y u _ ry e3)
      · rename_i e3; cases e2; exact .inr (datS_rep S 3 y u _ ry e3)
      · cases e2
    · exact p.elim
  · exact p.elim
/-! ### constants of the module -/
theorem me_gint {x : Str} {i : Int} {pos : Pos} (hg : Gl X x) (hm : ∃ t, X.mg x = some (.int i t)) (hd : (x == ("__debug__" : Str)) = false := by decide) : ME X C E (.Name x pos) (kk (.int i)) := by
  obtain ⟨t, hm⟩ := hm
  exact me_glob hg hm (v := .int i) ⟨t, rfl⟩ ⟨fun _ _ _ => .int i⟩ hd
theorem me_gref {x : Str} {a : Addr} {w : W} {pos : Pos} (hg : Gl X x) (hm : X.mg x = some (.ref a)) (g : GC C.K (.ref a) w) (hd : (x == ("__debug__" : Str)) = false := by decide) : ME X C E (.Name x pos) (kk w) :=
  me_glob hg hm (v := .ref a) rfl g hd
/-- what stands in the written part, by its values -/
inductive KW (K : PySem.W.Frag) : Value → W → Prop
  | non : KW K .none .non
  | bl (b : Bool) : KW K (.bool b) (.bl b)
  | int (i : Int) (t : Tok) : KW K (.int i t) (.int i)
  | str (x : Str) (t : Tok) : KW K (.str x t) (.str x)
  | tup {a : Addr} {dd : Option Addr} {us : Array Value} {n : Nat} {sl : Array (Option Value)} {ws : List W} (h : K.lookup a = some ⟨.type "tuple", dd, .seq us n, sl⟩) (hz : us.size ≤ sizeLine) (r : Paired (KW K) us.toList ws) : KW K (.ref a) (.tup ws)
mutual
theorem KW.gc {K : PySem.W.Frag} : ∀ {u : Value} {w : W}, KW K u w → ∃ v, RelV v u ∧ GC K v w
  | _, _, .non => ⟨.non, rfl, ⟨fun _ _ _ => .non⟩⟩
  | _, _, .bl b => ⟨.bl b, rfl, ⟨fun _ _ _ => .bl b⟩⟩
  | _, _, .int i t => ⟨.int i, ⟨t, rfl⟩, ⟨fun _ _ _ => .int i⟩⟩
  | _, _, .str x t => ⟨.str x, ⟨t, rfl⟩, ⟨fun _ _ _ => .str x⟩⟩
  | _, _, .tup h hz r => by
    obtain ⟨vs, h1, h2⟩ := KW.gcs r
    exact ⟨.ref _, rfl, ⟨fun H ρ st => .tup (.inr ⟨_, _, _, h, rfl, rfl, hz, h1⟩) (h2 H ρ st)⟩⟩
theorem KW.gcs {K : PySem.W.Frag} : ∀ {us : List Value} {ws : List W}, Paired (KW K) us ws → ∃ vs, Vals vs us ∧ ∀ H ρ st, RepL K H ρ st vs ws
  | _, _, .nil => ⟨[], .nil, fun _ _ _ => .nil⟩
  | _, _, .cons h r => by
    obtain ⟨v, h1, h2⟩ := KW.gc h
    obtain ⟨vs, h3, h4⟩ := KW.gcs r
    exact ⟨v :: vs, .cons h1 h3, fun H ρ st => .cons (h2.rep H ρ st) (h4 H ρ st)⟩
end
theorem KW.ref {K : PySem.W.Frag} {a : Addr} {w : W} (h : KW K (.ref a) w) : GC K (.ref a) w := by
  obtain ⟨v, h1, h2⟩ := h.gc
  cases v with
  | ref b => cases h1; exact h2
  | non => cases h1
  | bl b => cases h1
  | ty n => cases h1
  | int i => obtain ⟨_, q⟩ := h1; cases q
  | str i => obtain ⟨_, q⟩ := h1; cases q
  | byt i => obtain ⟨_, q⟩ := h1; cases q
  | flt i => obtain ⟨_, q⟩ := h1; cases q
/-- code that is never come to -/
def noS : Sx := fun _ _ => .no
theorem ms_never {s : Stmt} : MS X C E s noS := PS.imp (t := tNever) ps_never fun D σ H ⟨ρ, st, env, re, S, p⟩ => p.elim
theorem mss_never {s : List Stmt} : MSs X C E s noS := PSs.imp (t := tNever) pss_never fun D σ H ⟨ρ, st, env, re, S, p⟩ => p.elim
end
end
end ML

/-! ML9: written tables with int keys; is of bools -/
namespace ML
open PySem L2
noncomputable section
def TabIs : List DictEntry → List (Int × Value) → Prop := Paired fun e p => (∃ t, e.key = Value.int p.1 t) ∧ e.hash = hashInt p.1 ∧ e.val = p.2
/-- a written dict with int keys, and how its values read -/
structure KTab (K : PySem.W.Frag) (a : Addr) (tw : List (Int × W)) : Prop where
  low : (a == sysModules) = false
  ex : ∃ es n ps, K.lookup a = some ⟨.type "dict", none, .dict es n, #[]⟩ ∧ TabIs es.toList ps ∧ Paired (fun (p : Int × Value) (q : Int × W) => p.1 = q.1 ∧ KW K p.2 q.2) ps tw
def tabV (ps : List (Int × Value)) (k : Int) : Option Value := (ps.find? fun p => decide (p.1 = k)).map (·.2)
theorem tab_find {k : Int} : ∀ {l : List DictEntry} {ps : List (Int × Value)}, TabIs l ps → (l.find? fun e => Value.isInt k e.key).map (·.val) = tabV ps k
  | [], [], _ => rfl
  | e :: l, p :: ps, h => by
    cases h with
    | cons h r =>
      obtain ⟨⟨t, h1⟩, h2, h3⟩ := h
      unfold tabV
      rw [List.find?_cons, List.find?_cons, h1]
      by_cases z : p.1 = k
      · have q : Value.isInt k (.int p.1 t) = true := by rw [z]; simp [Value.isInt]
        rw [q, decide_eq_true z]
        simp [h3]
      · have q : Value.isInt k (.int p.1 t) = false := by
          cases q : Value.isInt k (.int p.1 t) with
          | false => rfl
          | true =>
            obtain ⟨t', e'⟩ := Value.isInt_shape q
            cases e'
            exact absurd rfl z
        rw [q, decide_eq_false z]
        exact tab_find r
theorem tab_w {K : PySem.W.Frag} {k : Int} : ∀ {ps : List (Int × Value)} {tw : List (Int × W)}, Paired (fun (p : Int × Value) (q : Int × W) => p.1 = q.1 ∧ KW K p.2 q.2) ps tw →
    (tabV ps k = none ∧ tw.lookup k = none) ∨ ∃ u w, tabV ps k = some u ∧ tw.lookup k = some w ∧ KW K u w
  | [], [], _ => .inl ⟨rfl, rfl⟩
  | p :: ps, q :: tw, h => by
    cases h with
    | cons h r =>
      obtain ⟨k2, w⟩ := q
      obtain ⟨h1, h2⟩ := h
      simp only at h1 h2
      by_cases z : p.1 = k
      · refine .inr ⟨p.2, w, ?_, ?_, h2⟩
        · unfold tabV; rw [List.find?_cons, decide_eq_true z]; rfl
        · rw [List.lookup_cons, show (k == k2) = true by rw [← h1, z]; simp]
      · have e1 : tabV (p :: ps) k = tabV ps k := by unfold tabV; rw [List.find?_cons, decide_eq_false z]
        have e2 : ((k2, w) :: tw).lookup k = tw.lookup k := by
          rw [List.lookup_cons, show (k == k2) = false by rw [← h1]; simpa using fun e => z e.symm]
        rw [e1, e2]
        exact tab_w r
theorem KTab.map {K : PySem.W.Frag} {a : Addr} {tw : List (Int × W)} (T : KTab K a tw) {h : Heap} (X : K.In h) (prog : Program) (w : World) : ∃ ps, h.MapOf (intKind prog w) a (tabV ps) ∧ Paired (fun (p : Int × Value) (q : Int × W) => p.1 = q.1 ∧ KW K p.2 q.2) ps tw := by
  obtain ⟨es, n, ps, hl, ht, hw⟩ := T.ex
  refine ⟨ps, ⟨_, es, n, X _ _ hl, ⟨rfl, rfl, rfl⟩, rfl, fun e he => ?_, fun k => ?_⟩, hw⟩
  · have key : ∀ {l : List DictEntry} {ps : List (Int × Value)}, TabIs l ps → e ∈ l → ∃ k, Value.isInt k e.key = true ∧ e.hash = hashInt k := by
      intro l
      induction l with
      | nil => intro ps _ hm; cases hm
      | cons e' l ih =>
        intro ps ht hm
        cases ht with
        | cons h r =>
          rcases List.mem_cons.mp hm with z | hm
          · subst z
            obtain ⟨⟨t, h1⟩, h2, _⟩ := h
            exact ⟨_, by rw [h1]; simp [Value.isInt], h2⟩
          · exact ih r hm
    exact key ht (Array.mem_toList_iff.mpr he)
  · obtain ⟨l⟩ := es
    have q := tab_find (k := k) ht
    unfold findBy
    rw [List.find?_toArray]
    exact q
section
variable {X : Cx} {C : MC} {E : XK} {a b : Expr} {ma mb : Ex} {pos : Pos} {x : Str} {p : Pos} {ad : Addr} {tw : List (Int × W)}
def rInT (K : PySem.W.Frag) (ad : Addr) (tw : List (Int × W)) (neg : Bool) : R2 := fun x y H Q => ∃ k, x = .int k ∧ y = .ref ad ∧ Q (.bl (if neg then !(tw.lookup k).isSome else (tw.lookup k).isSome)) H
theorem op_inT (T : KTab X.K ad tw) : OpR X (compareOp .In) (rInT X.K ad tw false) := by
  intro pins s σ H x y v u Q I rx ry ⟨k, ex, ey, q⟩
  subst ex; subst ey
  obtain ⟨t, rfl⟩ := rx
  cases ry
  obtain ⟨ps, hm, hw⟩ := T.map I.kIn X.prog X.w
  refine wpAny_in_of (knd := intKind X.prog X.w) (k := k) (by show Value.isInt k (.int k t) = true; simp [Value.isInt]) T.low hm ⟨.bl (tw.lookup k).isSome, H, I.tok _, ?_, q⟩
  rcases tab_w (k := k) hw with ⟨h1, h2⟩ | ⟨u, w, h1, h2, _⟩ <;> rw [h1, h2] <;> rfl
def inT (tw : List (Int × W)) (x : W) (s : Sto) : R W := match x with
  | .int k => .ok (.bl (tw.lookup k).isSome) s
  | _ => .no
def ninT (tw : List (Int × W)) (x : W) (s : Sto) : R W := match x with
  | .int k => .ok (.bl (!(tw.lookup k).isSome)) s
  | _ => .no
theorem me_inT (T : KTab X.K ad tw) (ha : ME X C E a ma) (hg : Gl X x) (hm : X.mg x = some (.ref ad)) (hd : (x == ("__debug__" : Str)) = false := by decide) (hb : behindInMarks .In (.Name x p) = false := by rfl) : ME X C E (.Compare a [.In] [.Name x p] pos) (un (inT tw) ma) := by
  refine PE.imp (pe_cmpR (op_inT T) ha (pe_glob hg hm (v := .ref ad) rfl hd) hb) fun σ H Q ⟨ρ, st, env, re, S, p⟩ => ⟨ρ, st, env, re, S, Post.bind p fun x s1 H1 ρ1 v hx e1 S1 r1 p1 => ?_⟩
  unfold inT at p1
  split at p1
  · cases r1; exact ⟨_, rfl, rfl, p1 H1 ρ1 _ (Evo.refl ..) S1 (.bl _)⟩
  · exact p1.elim
theorem mt_inT (T : KTab X.K ad tw) (ha : ME X C E a ma) (hg : Gl X x) (hm : X.mg x = some (.ref ad)) (hd : (x == ("__debug__" : Str)) = false := by decide) (hb : behindInMarks .In (.Name x p) = false := by rfl) : MT X C E (.Compare a [.In] [.Name x p] pos) (tb (un (inT tw) ma)) := by
  refine PT.imp (pt_cmpR (op_inT T) ha (pe_glob hg hm (v := .ref ad) rfl hd) hb) fun σ H Q h => tTest_of (m := un (inT tw) ma) (fun σ H Q ⟨ρ, st, env, re, S, p⟩ => ⟨ρ, st, env, re, S, Post.bind p fun x s1 H1 ρ1 v hx e1 S1 r1 p1 => ?_⟩) h
  unfold inT at p1
  split at p1
  · cases r1; exact ⟨_, rfl, rfl, p1 H1 ρ1 _ (Evo.refl ..) S1 (.bl _)⟩
  · exact p1.elim
def getT (tw : List (Int × W)) (x : W) (s : Sto) : R W := match x with
  | .int k => match tw.lookup k with
    | some w => .ok w s
    | none => .no
  | _ => .no
/-- table[i] -/
theorem me_getT (hK : C.K = X.K) (T : KTab X.K ad tw) (hi : ME X C E b mb) (hg : Gl X x) (hm : X.mg x = some (.ref ad)) (hd : (x == ("__debug__" : Str)) = false := by decide) (hs : PlainIx b := by intro _ _; rfl) : ME X C E (.Subscript (.Name x p) b pos) (un (getT tw) mb) := by
  have hr : IxR X fun x y H Q => ∃ k w, x = .ref ad ∧ y = .int k ∧ tw.lookup k = some w ∧ ∀ u v, KW X.K u w → RelV v u → GC X.K v w → Q v H := by
    intro value slice pins s σ H x y v u Q I rx ry ⟨k, w, ex, ey, hw, q⟩ hs
    subst ex; subst ey
    obtain rfl : v = Value.ref ad := rx
    obtain ⟨t, rfl⟩ := ry
    obtain ⟨ps, hm, hp⟩ := T.map I.kIn X.prog X.w
    rcases tab_w (k := k) hp with ⟨h1, h2⟩ | ⟨u, w', h1, h2, h3⟩
    · rw [hw] at h2; cases h2
    · rw [hw] at h2; cases h2
      obtain ⟨v, hv1, hv2⟩ := h3.gc
      exact PyProof.Rows.tail_any hm.typeIs PySem.slot_dict_getitem.lookup (wpAny_getItem_of (knd := intKind X.prog X.w) (k := k) (by show Value.isInt k (.int k t) = true; simp [Value.isInt]) hm h1 ⟨v, H, I.tok _, hv1, q u v h3 hv1 hv2⟩) hs
  refine PE.imp (pe_ix hr (pe_glob hg hm (v := .ref ad) rfl hd) hi hs) fun σ H Q ⟨ρ, st, env, re, S, p⟩ => ⟨ρ, st, env, re, S, Post.bind p fun x s1 H1 ρ1 v hx e1 S1 r1 p1 => ?_⟩
  unfold getT at p1
  split at p1
  · split at p1
    · rename_i w hw
      cases r1
      refine ⟨_, w, rfl, rfl, hw, fun u v _ _ g => p1 H1 ρ1 v (Evo.refl ..) S1 ?_⟩
      exact (hK ▸ g : GC C.K v w).rep ..
    · exact p1.elim
  · exact p1.elim
/-- is True, is not True -/
def isbW (x y : W) (s : Sto) : R W := match x, y with
  | .bl i, .bl j => .ok (.bl (decide (i = j))) s
  | _, _ => .no
def nibW (x y : W) (s : Sto) : R W := match x, y with
  | .bl i, .bl j => .ok (.bl (!decide (i = j))) s
  | _, _ => .no
theorem om_isb : OpM C E rIsB isbW := by
  intro H ρ st v u x y Q S rx ry p
  unfold isbW at p
  split at p
  · cases rx; cases ry
    exact ⟨_, _, rfl, rfl, p H ρ _ (Evo.refl ..) S (.bl _)⟩
  · exact p.elim
theorem om_nib : OpM C E rNotB nibW := by
  intro H ρ st v u x y Q S rx ry p
  unfold nibW at p
  split at p
  · cases rx; cases ry
    exact ⟨_, _, rfl, rfl, p H ρ _ (Evo.refl ..) S (.bl _)⟩
  · exact p.elim
/-- xs.index(y) of a list of ints, y in it -/
def firstI (y : Int) : List Int → Nat
  | [] => 0
  | x :: xs => if x = y then 0 else firstI y xs + 1
theorem firstI_at {y : Int} : ∀ {xs : List Int}, y ∈ xs → xs[firstI y xs]? = some y ∧ ∀ m z, m < firstI y xs → xs[m]? = some z → z ≠ y
  | x :: xs, h => by
    unfold firstI
    by_cases e : x = y
    · rw [if_pos e]
      exact ⟨by simp [e], fun m z hm => by omega⟩
    · rw [if_neg e]
      have hm : y ∈ xs := by
        rcases List.mem_cons.mp h with q | q
        · exact absurd q.symm e
        · exact q
      obtain ⟨h1, h2⟩ := firstI_at hm
      refine ⟨by simpa using h1, fun m z hlt hz => ?_⟩
      cases m with
      | zero => simp at hz; rw [← hz]; exact e
      | succ m => exact h2 m z (by omega) (by simpa using hz)
def idxF (x : W) (ws : List W) (s : Sto) : R W := match (lstK s x).bind intsOf, ws with
  | some ns, [.int y] => if y ∈ ns then .ok (.int (firstI y ns)) s else .no
  | _, _ => .no
theorem mm_index : MtW C E (rIndex C.K) idxF := by
  intro H ρ st v vs x ws Q S rx rs p
  unfold idxF at p
  split at p
  · rename_i ns y e
    rw [Option.bind_eq_some_iff] at e
    obtain ⟨xs, e1, e2⟩ := e
    obtain ⟨a, us, rfl, q, r⟩ := lstK_rep S rx e1
    rw [intsOf_eq e2] at r
    obtain ⟨w, rfl, rw_⟩ := rs.one
    cases rw_
    have hv := r.ints
    split at p
    · rename_i hy
      obtain ⟨h1, h2⟩ := firstI_at hy
      refine ⟨a, us, .int y, firstI y ns, .int y, rfl, rfl, q, rfl, by rw [hv]; simp [flatV], by rw [hv, List.getElem?_map, h1]; rfl, by simp [eqV], fun m z hm hz => ?_, p H ρ _ (Evo.refl ..) S (.int _)⟩
      rw [hv, List.getElem?_map] at hz
      cases e3 : ns[m]? with
      | none => rw [e3] at hz; cases hz
      | some k =>
        rw [e3] at hz; cases hz
        have := h2 m k hm e3
        simp [eqV, this]
    · exact p.elim
  · exact p.elim
end
end
end ML

/-! ML10: a list that a def has made and nobody else holds is given as a value -/
namespace ML
open PySem L2
noncomputable section
def mapO (f : W → Option W) : List W → Option (List W)
  | [] => some []
  | w :: ws => match f w, mapO f ws with
    | some a, some b => some (a :: b)
    | _, _ => none
def fz (n : Nat) (s : Sto) : Nat → W → Option W
  | 0, _ => none
  | k + 1, .tup ws => (mapO (fz n s k) ws).map .tup
  | k + 1, .fl ws => (mapO (fz n s k) ws).map .fl
  | k + 1, .kl ws => (mapO (fz n s k) ws).map .kl
  | k + 1, .loc l => if l < n then some (.loc l) else match s[l]? with
    | some (.lst ws) => (mapO (fz n s k) ws).map .fl
    | _ => none
  | _ + 1, w => some w
section
variable {C : MC} {H : Hp} {ρ ρ1 : Pl} {st s1 : Sto} {n : Nat}
theorem fzs_rep {f : W → Option W} (h : ∀ v w w', Rep C.K H ρ st v w → f w = some w' → Rep C.K H ρ1 s1 v w') : ∀ {vs : List V} {ws ws' : List W}, RepL C.K H ρ st vs ws → mapO f ws = some ws' → RepL C.K H ρ1 s1 vs ws'
  | _, _, _, .nil, e => by cases e; exact .nil
  | _, w :: ws, ws', .cons r rs, e => by
    unfold mapO at e
    split at e
    · rename_i a b e1 e2
      cases e
      exact .cons (h _ _ _ r e1) (fzs_rep h rs e2)
    · cases e
theorem fz_rep (S : RelS C H ρ st) (c : Cut ρ st n ρ1 s1) : ∀ (k : Nat) (v : V) (w w' : W), Rep C.K H ρ st v w → fz n st k w = some w' → Rep C.K H ρ1 s1 v w' := by
  intro k
  induction k with
  | zero => intro v w w' _ e; cases e
  | succ k ih =>
    intro v w w' r e
    cases r with
    | non => cases e; exact .non
    | bl b => cases e; exact .bl b
    | int b => cases e; exact .int b
    | str b => cases e; exact .str b
    | raw b => cases e; exact .raw _
    | tup h r =>
      simp only [fz, Option.map_eq_some_iff] at e
      obtain ⟨ws', e, rfl⟩ := e
      exact .tup h (fzs_rep ih r e)
    | fl h q r =>
      simp only [fz, Option.map_eq_some_iff] at e
      obtain ⟨ws', e, rfl⟩ := e
      exact .fl h (q.cut c) (fzs_rep ih r e)
    | kl h r =>
      simp only [fz, Option.map_eq_some_iff] at e
      obtain ⟨ws', e, rfl⟩ := e
      refine .kl ?_ (fzs_rep ih r e)
      rcases h with ⟨h, q⟩ | h
      · exact .inl ⟨h, q.cut c⟩
      · exact .inr h
    | @loc a l h =>
      simp only [fz] at e
      split at e
      · rename_i hl
        cases e
        exact .loc (by rw [c.pl _ hl]; exact h)
      · rename_i hl
        split at e
        · rename_i ws es
          simp only [Option.map_eq_some_iff] at e
          obtain ⟨ws', e, rfl⟩ := e
          obtain ⟨vs, q, r⟩ := S.obj l a _ h es
          refine .fl q ⟨fun m hm => ?_, fun hm => ?_⟩ (fzs_rep ih r e)
          · have hlt := (List.getElem?_eq_some_iff.mp hm).1
            rw [c.lp] at hlt
            rw [c.pl _ hlt] at hm
            have := S.inj l m a h hm
            omega
          · rw [c.hd] at hm
            exact absurd h ((S.hid a hm).2 l)
        · cases e
end
section
variable {X : Cx} {E : XK} {a : Expr} {ma : Ex} {pos : Pos}
theorem mt_isN {C : MC} {j pos'} (ha : ME X C E a ma) : MT X C E (.Compare a [.Is] [.Constant .none j pos'] pos) (tb (un isnW ma)) := by
  refine PT.imp (pt_cmp (pc_isN ha) rfl) fun σ H Q h => tTest_of (m := un isnW ma) (fun σ H Q ⟨ρ, st, env, re, S, p⟩ => ⟨ρ, st, env, re, S, Post.bind p fun x s1 H1 ρ1 v _ e1 S1 r1 p1 => ?_⟩) h
  cases r1 <;> first | exact p1.elim | exact p1 H1 ρ1 _ (Evo.refl ..) S1 (.bl _)
theorem mt_notN {C : MC} {j pos'} (ha : ME X C E a ma) : MT X C E (.Compare a [.IsNot] [.Constant .none j pos'] pos) (tb (un nonW ma)) := by
  refine PT.imp (pt_cmp (pc_notN ha) rfl) fun σ H Q h => tTest_of (m := un nonW ma) (fun σ H Q ⟨ρ, st, env, re, S, p⟩ => ⟨ρ, st, env, re, S, Post.bind p fun x s1 H1 ρ1 v _ e1 S1 r1 p1 => ?_⟩) h
  cases r1 <;> first | exact p1.elim | exact p1 H1 ρ1 _ (Evo.refl ..) S1 (.bl _)
end
/-- d' is what callers know of d: its lists are values -/
def Gz (n : Nat) (d d' : List W → Sto → R W) : Prop := ∀ (ws : List W) (st : Sto), ws.length = n → wfL st.length ws = true → match d' ws st with
  | .ok w' st' => ∃ w s2 k, d ws st = .ok w (st' ++ s2) ∧ st.length ≤ st'.length ∧ fz st'.length (st' ++ s2) k w = some w' ∧ (∀ (l : Nat) (o : O), st'[l]? = some o → st[l]? = some o ∨ o.wf st'.length = true)
  | .ex c s => d ws st = .ex c s
  | .no => True
theorem fn_gz {P : Program} {w : World} {K : PySem.W.Frag} {mg : Str → Option Value} {base : Heap} {CX : CXT} {C : MC} {k n : Nat} {f : Addr} {fd : FuncData} {ps : List Str} {d d' : List W → Sto → R W} (F : FnOk P w K mg base CX k f fd ps (sp0 C n d)) (g : Gz n d d') :
    FnOk P w K mg base CX k f fd ps (sp0 C n d') := by
  refine F.imp fun vs H Q E ⟨hl, ρ, st, ws, r, S, p⟩ => ⟨hl, ρ, st, ws, r, S, ?_⟩
  have q := g ws st (by rw [← r.length]; exact hl) (by rw [← S.len]; exact r.wf)
  cases e : d' ws st with
  | no => rw [e] at p; exact p.elim
  | ex c s => rw [e] at p q; rw [q]; exact p
  | ok x st' =>
    rw [e] at p q
    obtain ⟨w0, s2, kk, h1, h2, h3, h4⟩ := q
    rw [h1]
    intro H' ρ' v ev S' rv
    have c : Cut ρ' (st' ++ s2) st'.length ⟨ρ'.pl.take st'.length, ρ'.hd⟩ st' := by
      have ln := S'.len
      rw [List.length_append] at ln
      refine ⟨fun l hl => by simp [List.getElem?_take, hl], fun l hl => by rw [List.getElem?_append_left hl], ?_, rfl, rfl⟩
      show (ρ'.pl.take st'.length).length = _
      rw [List.length_take]
      omega
    refine p H' ⟨ρ'.pl.take st'.length, ρ'.hd⟩ v ⟨fun l a h => ?_, fun l h => ?_, ev.keep, fun l a h => ?_, ev.dom, ev.newh, ev.oldh⟩ (S'.cut c fun l o e2 => ?_) (fz_rep S' c kk v w0 x rv h3)
    · have hl : l < st'.length := by
        have := (List.getElem?_eq_some_iff.mp h).1
        rw [S.len] at this
        omega
      rw [c.pl l hl]
      exact ev.pre l a h
    · have hl : l < st'.length := by
        have := (List.getElem?_eq_some_iff.mp h).1
        omega
      rw [c.st l hl]
      exact ev.dd l h
    · have hl := (List.getElem?_eq_some_iff.mp h).1
      rw [c.lp] at hl
      rw [c.pl l hl] at h
      exact ev.new l a h
    · rcases h4 l o e2 with q | q
      · exact O.wf_mono h2 (S.wf q)
      · exact q
/-- the store stays -/
theorem Gz.pure {n : Nat} {d d' : List W → Sto → R W} (h : ∀ ws st w st', ws.length = n → wfL st.length ws = true → d' ws st = .ok w st' → st' = st ∧ ∃ w0 s2 k, d ws st = .ok w0 (st ++ s2) ∧ fz st.length (st ++ s2) k w0 = some w) (hx : ∀ ws st c s, d' ws st ≠ .ex c s) : Gz n d d' := by
  intro ws st hl hw
  cases e : d' ws st with
  | ok w st' =>
    obtain ⟨rfl, w0, s2, k, h1, h2⟩ := h ws st w st' hl hw e
    exact ⟨w0, s2, k, h1, Nat.le_refl _, h2, fun l o q => .inl q⟩
  | ex c s => exact absurd e (hx ws st c s)
  | no => exact True.intro
theorem mapO_some {f : W → Option W} (h : ∀ w, f w = some w) : ∀ ws : List W, mapO f ws = some ws
  | [] => rfl
  | w :: ws => by unfold mapO; rw [h w, mapO_some h ws]
theorem mapO_ints {f : W → Option W} (h : ∀ i, f (.int i) = some (.int i)) : ∀ ns : List Int, mapO f (ns.map W.int) = some (ns.map W.int)
  | [] => rfl
  | n :: ns => by simp only [List.map_cons]; unfold mapO; rw [h n, mapO_ints h ns]
/-- a list of ints, made by the def -/
theorem fz_ints {st : Sto} {ns : List Int} {s2 : Sto} : fz st.length (st ++ .lst (ns.map W.int) :: s2) 2 (.loc st.length) = some (.fl (ns.map W.int)) := by
  simp only [fz, Nat.lt_irrefl, if_false]
  rw [List.getElem?_append_right (Nat.le_refl _)]
  simp only [Nat.sub_self, List.getElem?_cons_zero]
  rw [mapO_ints (f := fz st.length (st ++ O.lst (List.map W.int ns) :: s2) 1) (fun i => rfl)]
  rfl
end
end ML

/-! ML11: zip, enumerate -/
namespace ML
open PySem L2
noncomputable section
variable {X : Cx} {C : MC} {E : XK} {a b c e o value : Expr} {ma mb mc mo mv : Ex} {pos pos' tpos : Pos} {es : List Expr} {mr : Ax}
def zipW (xs ys : List W) : List W := List.zipWith (fun a b => W.tup [a, b]) xs ys
def valW : W → Bool
  | .fl _ => true
  | .kl _ => true
  | _ => false
theorem valW_lst {x : W} (h : valW x = true) (s s' : Sto) : lstK s x = lstK s' x := by
  cases x <;> first | rfl | cases h
theorem zipW_at (xs ys : List W) (i : Nat) : (∃ x y, (zipW xs ys)[i]? = some (.tup [x, y]) ∧ xs[i]? = some x ∧ ys[i]? = some y) ∨ ((zipW xs ys)[i]? = none ∧ (xs.length ≤ i ∨ ys.length ≤ i)) := by
  unfold zipW
  by_cases h1 : i < xs.length
  · by_cases h2 : i < ys.length
    · exact .inl ⟨xs[i], ys[i], by simp [List.getElem?_zipWith, h1, h2], by simp [h1], by simp [h2]⟩
    · exact .inr ⟨by rw [List.getElem?_eq_none_iff]; simp; omega, .inr (by omega)⟩
  · exact .inr ⟨by rw [List.getElem?_eq_none_iff]; simp; omega, .inl (by omega)⟩
theorem yld2 {H : Hp} {ρ : Pl} {st : Sto} {T : Addr} {u v : V} {x y : W} (S : RelS C H ρ st) (hT : H T = none) (r1 : Rep C.K H ρ st u x) (r2 : Rep C.K H ρ st v y) :
    Evo H ρ st (upd H T (.tup [u, v])) ρ st ∧ RelS C (upd H T (.tup [u, v])) ρ st ∧ Rep C.K (upd H T (.tup [u, v])) ρ st (.ref T) (.tup [x, y]) :=
  ⟨Evo.laid hT, S.laid hT, tup_new S hT (.cons r1 (.cons r2 .nil))⟩
theorem itz_rel {H : Hp} {ρ : Pl} {st : Sto} {a b : Addr} {x y : W} {src : Src} (S : RelS C H ρ st) (r1 : Rep C.K H ρ st (.ref a) x) (r2 : Rep C.K H ρ st (.ref b) y)
    (h : ∀ st' i o, src.at i st' = some o → ∃ xs ys, lstK st' x = some xs ∧ lstK st' y = some ys ∧ o = (zipW xs ys)[i]?) : ItRel C (Itz C.K a b) H ρ st src := by
  intro H' ρ' st' ev S' i o ho
  have q1 := r1.evo ev S.liv
  have q2 := r2.evo ev S.liv
  obtain ⟨xs, ys, e1, e2, eo⟩ := h _ _ _ ho
  obtain ⟨a', vs, ea, k1, l1⟩ := lstK_rep S' q1 e1
  obtain ⟨b', us, eb, k2, l2⟩ := lstK_rep S' q2 e2
  cases ea; cases eb
  rcases zipW_at xs ys i with ⟨x, y, hz, hx, hy⟩ | ⟨hz, hl⟩
  · rw [hz] at eo
    subst eo
    obtain ⟨v, hv, rv⟩ := l1.get hx
    obtain ⟨u, hu, ru⟩ := l2.get hy
    refine ⟨⟨vs, us, v, u, k1, k2, hv, hu⟩, fun z H'' hy => ?_⟩
    obtain ⟨T, v', u', ez, hT, eH, h1, h2⟩ := hy
    have e1 := h1 vs k1
    have e2 := h2 us k2
    rw [hv] at e1; cases e1
    rw [hu] at e2; cases e2
    rw [ez, eH]
    exact yld2 S' hT rv ru
  · rw [hz] at eo
    subst eo
    exact ⟨vs, us, k1, k2, by rw [l1.length, l2.length]; exact hl⟩
theorem itzT_rel {H : Hp} {ρ : Pl} {st : Sto} {a b : Addr} {vs us : List V} {xs ys : List W} (S : RelS C H ρ st) (k1 : SqT C.K H a vs) (k2 : SqT C.K H b us) (l1 : RepL C.K H ρ st vs xs) (l2 : RepL C.K H ρ st us ys) : ItRel C (RZ.ItzT C.K a b) H ρ st (.st (zipW xs ys)) := by
  intro H' ρ' st' ev S' i o ho
  have k1 := SqT.evo ev S.liv k1
  have k2 := SqT.evo ev S.liv k2
  have l1 := l1.evo ev S.liv
  have l2 := l2.evo ev S.liv
  cases ho
  rcases zipW_at xs ys i with ⟨x, y, hz, hx, hy⟩ | ⟨hz, hl⟩
  · rw [hz]
    obtain ⟨v, hv, rv⟩ := l1.get hx
    obtain ⟨u, hu, ru⟩ := l2.get hy
    refine ⟨⟨vs, us, v, u, k1, k2, hv, hu⟩, fun z H'' hy => ?_⟩
    obtain ⟨T, v', u', ez, hT, eH, h1, h2⟩ := hy
    have e1 := h1 vs k1
    have e2 := h2 us k2
    rw [hv] at e1; cases e1
    rw [hu] at e2; cases e2
    rw [ez, eH]
    exact yld2 S' hT rv ru
  · rw [hz]
    exact ⟨vs, us, k1, k2, by rw [l1.length, l2.length]; exact hl⟩
def zpF (x y : W) (s : Sto) : R Src := match lstK s x, lstK s y with
  | some xs, some ys => if (valW x && valW y) = true then .ok (.st (zipW xs ys)) s else .ok (.dy (xs.length + 1) fun i st' => match lstK st' x, lstK st' y with
    | some xs, some ys => some ((zipW xs ys)[i]?)
    | _, _ => none) s
  | _, _ => .no
def zpI (m : Ax) : Ix := fun env st => (m env st).bind fun ws s => match ws with
  | [.tup xs, .tup ys] => .ok (.st (zipW xs ys)) s
  | [x, y] => zpF x y s
  | _ => .no
theorem mi_zip {p : Pos} {elts : List Expr} {kk : Nat} (hK : C.K = X.K) (hg : Gl X "zip") (hm : X.mg "zip" = none) (ha : MA' X C E [a, b] mr)
    (hs : starEach [a, b] X.env = (false, eval a X.env) :: starEach [b] X.env := by rfl) (hpl : (backTo pos (starEach [b] X.env)).any (·.1) = false := by rfl) :
    MI X C E (.Tuple elts kk tpos) (.Call (.Name "zip" p) [a, b] [] pos) (zpI mr) := by
  refine PI.imp (RZ.pi_zipA hg hm ha.pa hs hpl) fun σ H R ⟨ρ, st, env, re, S, p⟩ => ⟨ρ, st, env, re, S, Post.bind (rel := relWs C) p fun ws s1 H1 ρ1 vs hw e1 S1 r1 p1 => ?_⟩
  rw [← hK]
  split at p1
  · obtain ⟨v, u, rfl, q1, q2⟩ := r1.two
    cases q1 with
    | tup k1 l1 => cases q2 with
      | tup k2 l2 => exact ⟨_, _, _, _, rfl, .inr ⟨k1, k2, p1 H1 ρ1 _ (Evo.refl ..) S1 (itzT_rel S1 k1 k2 l1 l2)⟩⟩
  · obtain ⟨v, u, rfl, q1, q2⟩ := r1.two
    unfold zpF at p1
    split at p1
    · rename_i xs ys h1 h2
      obtain ⟨a, vs, rfl, k1, l1⟩ := lstK_rep S1 q1 h1
      obtain ⟨b, us, rfl, k2, l2⟩ := lstK_rep S1 q2 h2
      split at p1
      · rename_i hv
        rw [Bool.and_eq_true] at hv
        refine ⟨_, _, _, _, rfl, .inl ⟨k1, k2, p1 H1 ρ1 _ (Evo.refl ..) S1 (itz_rel S1 q1 q2 fun st' i o ho => ⟨xs, ys, ?_, ?_, ?_⟩)⟩⟩
        · rw [valW_lst hv.1 st' s1, h1]
        · rw [valW_lst hv.2 st' s1, h2]
        · cases ho; rfl
      · refine ⟨_, _, _, _, rfl, .inl ⟨k1, k2, p1 H1 ρ1 _ (Evo.refl ..) S1 (itz_rel S1 q1 q2 fun st' i o ho => ?_)⟩⟩
        simp only [Src.at] at ho
        split at ho
        · rename_i xs ys e1 e2
          cases ho
          exact ⟨xs, ys, e1, e2, rfl⟩
        · cases ho
    · exact p1.elim
  · exact p1.elim
/-! enumerate -/
def enG (i : Nat) (w : W) : W := .tup [.int (i : Nat), w]
theorem ite_rel {H : Hp} {ρ : Pl} {st s : Sto} {a : Addr} {w : W} {src : Src} (S : RelS C H ρ st) (r : Rep C.K H ρ st (.ref a) w) (h : ∀ st' i o, src.at i st' = some o → ∃ ws, lstK st' w = some ws ∧ o = ws[i]?.map (enG i)) : ItRel C (Ite C.K a) H ρ st src := by
  intro H' ρ' st' ev S' i o ho
  have r' := r.evo ev S.liv
  obtain ⟨ws, e, eo⟩ := h _ _ _ ho
  obtain ⟨a', vs', ea, q', rr⟩ := lstK_rep S' r' e
  cases ea
  subst eo
  cases ei : ws[i]? with
  | none => exact ⟨vs', q', by rw [rr.length]; exact List.getElem?_eq_none_iff.mp ei⟩
  | some x =>
    obtain ⟨v, hv, rv⟩ := rr.get ei
    refine ⟨⟨vs', v, q', hv⟩, fun y H'' hy => ?_⟩
    obtain ⟨T, v', ez, hT, eH, h1⟩ := hy
    have e1 := h1 vs' q'
    rw [hv] at e1; cases e1
    rw [ez, eH]
    exact yld2 S' hT (.int _) rv
def enI (m : Ax) : Ix := fun env st => (m env st).bind fun ws s => match ws with
  | [w] => match srcL enG w s with
    | some src => .ok src s
    | none => .no
  | _ => .no
theorem mi_enum {p : Pos} {elts : List Expr} {kk : Nat} (hK : C.K = X.K) (hg : Gl X "enumerate") (hm : X.mg "enumerate" = none) (ha : MA' X C E [a] mr) (hs : starEach [a] X.env = [(false, eval a X.env)] := by rfl) :
    MI X C E (.Tuple elts kk tpos) (.Call (.Name "enumerate" p) [a] [] pos) (enI mr) := by
  refine PI.imp (pi_enum hg hm ha.pa hs) fun σ H R ⟨ρ, st, env, re, S, p⟩ => ⟨ρ, st, env, re, S, Post.bind (rel := relWs C) p fun ws s1 H1 ρ1 vs hw e1 S1 r1 p1 => ?_⟩
  rw [← hK]
  split at p1
  · obtain ⟨v, rfl, q1⟩ := r1.one
    split at p1
    · rename_i src e0
      obtain ⟨ws, ek⟩ := srcL_lst e0
      obtain ⟨a, vs, rfl, q, r⟩ := lstK_rep S1 q1 ek
      exact ⟨a, vs, rfl, q, p1 H1 ρ1 _ (Evo.refl ..) S1 (ite_rel (s := s1) S1 q1 fun st' i o ho => srcL_at e0 ho)⟩
    · exact p1.elim
  · exact p1.elim
end
end ML

/-! ML12: a comprehension with a place; == by an own __eq__; isinstance of an own class -/
namespace ML
open PySem L2
noncomputable section
section
variable {K : PySem.W.Frag} {H : Hp} {ρ : Pl} {st : Sto} {D : Addr} {u : O}
theorem NL.placed (hD : D ∈ ρ.hd) {a : Addr} (n : NL ρ st a) : NL ((ρ.show D).add D) (st ++ [u]) a := by
  refine ⟨fun l q => ?_, fun h => n.2 (show_sub h)⟩
  rcases add_at (ρ := ρ.show D) q with q | ⟨_, q⟩
  · have := n.1 l q
    rw [List.getElem?_append_left (List.getElem?_eq_some_iff.mp this).1]
    exact this
  · exact absurd (q ▸ hD) n.2
mutual
theorem Rep.placed (hD : D ∈ ρ.hd) : ∀ {v : V} {w : W}, Rep K H ρ st v w → Rep K H ((ρ.show D).add D) (st ++ [u]) v w
  | _, _, .non => .non
  | _, _, .bl b => .bl b
  | _, _, .int i => .int i
  | _, _, .str x => .str x
  | _, _, .raw v => .raw v
  | _, _, .tup h r => .tup h (RepL.placed hD r)
  | _, _, .fl h n r => .fl h (n.placed hD) (RepL.placed hD r)
  | _, _, .kl h r => .kl (by
      rcases h with ⟨h, n⟩ | h
      · exact .inl ⟨h, n.placed hD⟩
      · exact .inr h) (RepL.placed hD r)
  | _, _, .loc h => .loc (add_old (ρ := ρ.show D) h)
theorem RepL.placed (hD : D ∈ ρ.hd) : ∀ {vs : List V} {ws : List W}, RepL K H ρ st vs ws → RepL K H ((ρ.show D).add D) (st ++ [u]) vs ws
  | _, _, .nil => .nil
  | _, _, .cons h r => .cons (Rep.placed hD h) (RepL.placed hD r)
end
theorem RepK.placed (hD : D ∈ ρ.hd) : ∀ {kvs : List (Key × V)} {kws : List (Key × W)}, RepK K H ρ st kvs kws → RepK K H ((ρ.show D).add D) (st ++ [u]) kvs kws
  | [], [], _ => trivial
  | (k, v) :: kvs, (j, w) :: kws, h => ⟨h.1, h.2.1.placed hD, RepK.placed hD h.2.2⟩
  | [], _ :: _, h => h.elim
  | _ :: _, [], h => h.elim
end
theorem RelS.placed {C : MC} {H : Hp} {ρ : Pl} {st : Sto} {D : Addr} {vs : List V} {ws : List W} (S : RelS C H ρ st) (hD : D ∈ ρ.hd) (hl : H D = some (.lst vs)) (ra : RepL C.K H ρ st vs ws) : RelS C H ((ρ.show D).add D) (st ++ [.lst ws]) := by
  have nD := (S.hid D hD).2
  refine ⟨by show (ρ.pl ++ [D]).length = _; simp [S.len], fun l m a h1 h2 => ?_, fun l a x h e => ?_, fun a h => ?_⟩
  · rcases add_at (ρ := ρ.show D) h1 with h1 | ⟨h1, e1⟩
    · rcases add_at (ρ := ρ.show D) h2 with h2 | ⟨h2, e2⟩
      · exact S.inj l m a h1 h2
      · rw [e2] at h1; exact absurd h1 (nD l)
    · rcases add_at (ρ := ρ.show D) h2 with h2 | ⟨h2, e2⟩
      · rw [e1] at h2; exact absurd h2 (nD m)
      · rw [h1, h2]
  · rcases add_at (ρ := ρ.show D) h with h | ⟨h, ea⟩
    · have hlt : l < st.length := by rw [← S.len]; exact (List.getElem?_eq_some_iff.mp h).1
      rw [List.getElem?_append_left hlt] at e
      have q := S.obj l a x h e
      cases x with
      | dead => exact q
      | lst ws => obtain ⟨vs, q, r⟩ := q; exact ⟨vs, q, r.placed hD⟩
      | ins c fs => obtain ⟨Cd, nm, dx, fvs, q1, q2, r1, r2, r3⟩ := q; exact ⟨Cd, nm, dx, fvs, q1, q2, r1, fun i f w a b => let ⟨v, e, r⟩ := r2 i f w a b; ⟨v, e, r.placed hD⟩, r3⟩
      | dct kws => obtain ⟨kvs, q, r⟩ := q; exact ⟨kvs, q, RepK.placed hD r⟩
    · have hl' : l = st.length := by rw [h]; exact S.len
      rw [hl', List.getElem?_append_right (Nat.le_refl _)] at e
      simp at e
      rw [ea, ← e]
      exact ⟨vs, hl, ra.placed hD⟩
  · have hs := show_sub h
    refine ⟨(S.hid a hs).1, fun l z => ?_⟩
    rcases add_at (ρ := ρ.show D) z with z | ⟨_, z⟩
    · exact (S.hid a hs).2 l z
    · rw [z] at h; exact show_not h
variable {X : Cx} {C : MC} {E : XK} {a b c e o value : Expr} {ma mb mc mo mv : Ex} {pos pos' tpos : Pos} {es : List Expr} {mr : Ax}
variable {mi : Ix} {gV : TG} {g : W → En → Option En} {kt : Bx} {own : List Nat}
/-- [e for .. in .. if ..], the list has a place -/
def lcQ (vs : List Nat) (m : Ix) (g : W → En → Option En) (t : Bx) (e : Ex) : Ex := fun env st => (lcS vs m g t e env st).bind fun ws s => .ok (.loc s.length) (s ++ [.lst ws])
theorem tLcQ_of (ct : CT C.K own gV g) {σ : St} {H : Hp} {Q : VK} (h : tM C E (lcQ own mi g kt ma) σ H Q) : tLc (tMI C E mi) gV (tMB C E kt) (tM C E ma) own σ H Q := by
  obtain ⟨ρ, st, env, re, S, p⟩ := h
  unfold lcQ lcS at p
  rw [R.bind_assoc] at p
  refine ⟨ρ, st, env, re, S, Post.bind (rel := relSrc C) p fun src s1 H1 ρ1 J hj e1 S1 rj p1 => fun D hD => ?_⟩
  have re1 := (re.evo e1 S.liv).wipe own
  have p2 : Post (relW C) C E H1 ρ1 s1 ((lcF src.at g kt ma (wipeE env own) src.n 0 [] s1).bind fun ws s => .ok (.loc s.length) (s ++ [.lst ws])) Q := by
    cases src with
    | st ws =>
      simp only at p1
      split at p1
      · rename_i hl
        have hl := ck_iff.mp hl
        have q := lcL_F (g := g) (t := kt) (e := ma) (env := wipeE env own) (ws := ws) (ws.length + 1) 0 [] s1 (by omega) (by omega) (by simp) hl
        rw [List.drop_zero] at q
        show Post (relW C) C E H1 ρ1 s1 ((lcF (fun i _ => some ws[i]?) g kt ma (wipeE env own) (ws.length + 1) 0 [] s1).bind fun ws s => .ok (.loc s.length) (s ++ [.lst ws])) Q
        rw [q, R.bind_assoc]
        simpa using p1
      · exact p1.elim
    | dy n f => exact p1
  have e0 : Evo H1 ρ1 s1 (upd H1 D (.lst [])) (ρ1.hide D) s1 := Evo.hide hD
  refine ⟨fun i m H' => ∃ ρ' st' acc vacc, Evo H1 ρ1 s1 H' ρ' st' ∧ RelS C H' ρ' st' ∧ RelE C.K H' ρ' st' (wipe σ own) (wipeE env own) ∧ H' D = some (.lst vacc) ∧ D ∈ ρ'.hd ∧ RepL C.K H' ρ' st' vacc acc ∧
      Post (relW C) C E H1 ρ1 s1 ((lcF src.at g kt ma (wipeE env own) m i acc st').bind fun ws s => .ok (.loc s.length) (s ++ [.lst ws])) Q,
    ⟨src.n, ρ1.hide D, s1, [], [], e0, S1.hide hD trivial, re1.evo e0 S1.liv, upd_same, List.mem_cons_self, .nil, p2⟩, ?_⟩
  rintro i m H' ⟨ρ', st', acc, vacc, ev, S', re', hD', hm', ra, pp⟩
  cases m with
  | zero => exact pp.elim
  | succ n =>
    unfold lcF at pp
    cases ei : src.at i st' with
    | none => rw [ei] at pp; exact pp.elim
    | some o =>
      have q := rj H' ρ' st' ev S' i o ei
      rw [ei] at pp
      cases o with
      | none =>
        refine .inl ⟨q, pp H' ((ρ'.show D).add D) _ ⟨fun l a h => ?_, fun l h => ?_, ev.keep, fun l a h => ?_, ev.dom, fun a h => ev.newh a (show_sub h), fun a h => show_mem (ev.oldh a h) fun z => ?_⟩ (S'.placed hm' hD' ra) ?_⟩
        · exact add_old (ρ := ρ'.show D) (ev.pre l a h)
        · rw [List.getElem?_append_left (List.getElem?_eq_some_iff.mp (ev.dd l h)).1]
          exact ev.dd l h
        · rcases add_at (ρ := ρ'.show D) h with h | ⟨_, h⟩
          · exact ev.new l a h
          · rw [h]; exact .inr hD
        · obtain ⟨⟨u, e, _⟩, _⟩ := S1.hid a h
          rw [z, hD] at e; cases e
        · refine .loc ?_
          rw [← S'.len]
          exact add_new (ρ := ρ'.show D)
      | some w =>
        simp only at pp
        cases eg : g w (wipeE env own) with
        | none => rw [eg] at pp; exact pp.elim
        | some env1 =>
          rw [eg] at pp
          simp only [R.bind_assoc] at pp
          refine .inr ⟨q.1, fun H' => ∃ ρ' st' acc vacc, Evo H1 ρ1 s1 H' ρ' st' ∧ RelS C H' ρ' st' ∧ RelE C.K H' ρ' st' (wipe σ own) (wipeE env own) ∧ H' D = some (.lst vacc) ∧ D ∈ ρ'.hd ∧ RepL C.K H' ρ' st' vacc acc ∧
            Post (relW C) C E H1 ρ1 s1 ((lcF src.at g kt ma (wipeE env own) n (i + 1) acc st').bind fun ws s => .ok (.loc s.length) (s ++ [.lst ws])) Q, fun H' q => ⟨n, Nat.lt_succ_self n, q⟩, fun x H2 hy => ?_⟩
          obtain ⟨ev2, S2, rx⟩ := q.2 x H2 hy
          have on : ∀ {H3 ρ3 s3}, Evo H' ρ' st' H3 ρ3 s3 → Evo H1 ρ1 s1 H3 ρ3 s3 ∧ RelE C.K H3 ρ3 s3 (wipe σ own) (wipeE env own) ∧ H3 D = some (.lst vacc) ∧ D ∈ ρ3.hd ∧ RepL C.K H3 ρ3 s3 vacc acc := fun {H3 ρ3 s3} e3 =>
            ⟨ev.trans e3, re'.evo e3 S'.liv, e3.keep D _ hD' (fun l q => absurd q ((S'.hid D hm').2 l)), e3.oldh D hm', ra.evo e3 S'.liv⟩
          refine ct.ok H2 ρ' st' (wipe σ own) (wipeE env own) env1 x w _ (re'.evo ev2 S'.liv) rx eg fun σ1 re3 hw => ⟨hw.trans (wipe_wipe σ own), ?_⟩
          refine ⟨ρ', st', env1, re3, S2, Post.bindAt (rel := relB) pp (ev.trans ev2) fun k s3 H3 ρ3 kv hk e3 S3 rk p3 => ?_⟩
          have rk : kv = k := rk
          subst rk
          cases kv with
          | false =>
            refine (if_neg (by decide)).mpr ?_
            obtain ⟨a1, a2, a4, a5, a6⟩ := on (ev2.trans e3)
            exact ⟨ρ3, s3, acc, vacc, a1, S3, a2, a4, a5, a6, p3⟩
          | true =>
            refine (if_pos rfl).mpr ?_
            simp only [if_true, R.bind_assoc] at p3
            refine ⟨ρ3, s3, env1, re3.evo e3 S2.liv, S3, Post.bindAt (rel := relW C) p3 ((ev.trans ev2).trans e3) fun y s4 H4 ρ4 vy hy4 e4 S4 ry p4 => ?_⟩
            obtain ⟨a1, a2, a4, a5, a6⟩ := on ((ev2.trans e3).trans e4)
            split at p4
            · rename_i hl
              have hm : ∃ u, H4 D = some u ∧ isMutO u := ⟨_, a4, trivial⟩
              refine ⟨vacc, a4, by rw [a6.length]; exact Nat.lt_of_lt_of_le (ck_iff.mp hl) (by decide), ?_⟩
              refine ⟨ρ4, s4, acc ++ [y], vacc ++ [vy], ?_, S4.hidw a5 trivial, ?_, upd_same, a5, (a6.hidw a5 hm).append (.cons (ry.hidw a5 hm) .nil), p4⟩
              · have neD : ∀ b o, H1 b = some o → b ≠ D := fun b o hb z => by rw [z, hD] at hb; cases hb
                exact ⟨a1.pre, a1.dd, fun b o hb nl => by rw [upd_ne (neD b o hb)]; exact a1.keep b o hb nl, a1.new, fun b hb => by
                  by_cases z : b = D
                  · rw [z]; exact hD
                  · rw [upd_ne z] at hb; exact a1.dom b hb, a1.newh, a1.oldh⟩
              · exact ⟨a2.1, fun i w e => let ⟨v, q, r⟩ := a2.2 i w e; ⟨v, q, r.hidw a5 hm⟩⟩
            · exact p4.elim
variable {elt tg iter : Expr} {ifs : List Expr} {scope : Scope} {ownP : List (Str × Nat)}
/-- a comprehension, its list has a place -/
theorem me_lcQ {mt : Ex} (ct : CT C.K (ownP.map (·.2)) gV g) (hc : X.calm = true) (hN : X.N.Nodup) (hi : MI X C E tg iter mi) (ok : BlkOk X.N X.env.scope scope ownP)
    (hg : ∀ (s : Shared) (H : Hp) (C : Addr) (cl : List (Str × Addr)) (fp : List Addr), PG (X.blk s H scope (compEnvC scope cl C X.env) fp) tg gV) (ht : ∀ (s : Shared) (H : Hp) (Cc : Addr) (cl : List (Str × Addr)) (fp : List Addr), PTs (X.blk s H scope (compEnvC scope cl Cc X.env) fp) ifs (tMB C E kt))
    (he : ∀ (s : Shared) (H : Hp) (Cc : Addr) (cl : List (Str × Addr)) (fp : List Addr), ME (X.blk s H scope (compEnvC scope cl Cc X.env) fp) C E elt mt) (hs : ∀ x, foldedSetIterable iter X.env x = pure x := by intro _; rfl) :
    ME X C E (.ListComp elt [⟨tg, iter, ifs, 0⟩] scope pos) (lcQ (ownP.map (·.2)) mi g kt mt) :=
  PE.imp (pe_lc hc hN hi ok hg ht he hs) fun _ _ _ h => tLcQ_of ct h
/-- name = [..] -/
theorem ms_setLcQ {mt : Ex} {i : Nat} {y : Str} {py spos : Pos} (ct : CT C.K (ownP.map (·.2)) gV g) (hc : X.calm = true) (hN : X.N.Nodup) (hy : X.N[i]? = some y) (hyl : X.env.scope.names.lookup y = some .local)
    (hsw : swapsWith (.ListComp elt [⟨tg, iter, ifs, 0⟩] scope pos) (some (.Name y py)) spos.line X.env = pure true) (hi : MI X C E tg iter mi) (ok : BlkOk X.N X.env.scope scope ownP)
    (hg : ∀ (s : Shared) (H : Hp) (C : Addr) (cl : List (Str × Addr)) (fp : List Addr), PG (X.blk s H scope (compEnvC scope cl C X.env) fp) tg gV) (ht : ∀ (s : Shared) (H : Hp) (Cc : Addr) (cl : List (Str × Addr)) (fp : List Addr), PTs (X.blk s H scope (compEnvC scope cl Cc X.env) fp) ifs (tMB C E kt))
    (he : ∀ (s : Shared) (H : Hp) (Cc : Addr) (cl : List (Str × Addr)) (fp : List Addr), ME (X.blk s H scope (compEnvC scope cl Cc X.env) fp) C E elt mt) (hs : ∀ x, foldedSetIterable iter X.env x = pure x := by intro _; rfl) :
    MS X C E (.Assign [.Name y py] (.ListComp elt [⟨tg, iter, ifs, 0⟩] scope pos) spos) (setS i (lcQ (ownP.map (·.2)) mi g kt mt)) := by
  refine PS.imp (ps_setLc hc hN hy hyl hsw hi ok hg ht he hs) fun D σ H ⟨ρ, st, env, re, S, p⟩ => tLcQ_of ct ⟨ρ, st, env, re, S, PostS.bind (rel := relW C) p fun w s1 H1 ρ1 v hw e1 S1 r1 p1 => ?_⟩
  exact p1 H1 ρ1 _ (Evo.refl ..) S1 ((re.evo e1 S.liv).set r1 i)
/-! ### own classes: isinstance, == -/
structure OwnC (K : PySem.W.Frag) (Cd : Addr) : Prop where
  cl : Cls K Cd
  ha : PySem.W.findIn K (.ref Cd) "__class__" = some (some (.builtin "object.__class__"))
  hn : PySem.W.specialIn K (.builtin "object.__class__") "__get__" = some (some (.builtin "getset_descriptor.__get__"))
  tk : PySem.W.takesIn K (.builtin "object.__class__") = some true
  mr : PySem.W.mroIn K Cd (.type "object") = some true
  ci : PySem.W.isClsIn K Cd = true
  ti : PySem.W.typeIn K (.ref Cd) = some (.type "type")
  s0 : PySem.W.subIn K (.type "NoneType") (.ref Cd) = some false
  s1 : PySem.W.subIn K (.type "bool") (.ref Cd) = some false
  s2 : PySem.W.subIn K (.type "int") (.ref Cd) = some false
  s3 : PySem.W.subIn K (.type "str") (.ref Cd) = some false
  s4 : PySem.W.subIn K (.type "tuple") (.ref Cd) = some false
  s5 : PySem.W.subIn K (.type "list") (.ref Cd) = some false
theorem OwnC.sub {K : PySem.W.Frag} {Cd : Addr} (O : OwnC K Cd) (t : Ty) : PySem.W.subIn K (.type t.nm) (.ref Cd) = some false := by
  cases t with
  | non => exact O.s0
  | bl => exact O.s1
  | int => exact O.s2
  | str => exact O.s3
  | tup => exact O.s4
  | lst => exact O.s5
theorem OwnC.kit {K : PySem.W.Frag} {Cd : Addr} (O : OwnC K Cd) (t : Ty) : PySem.W.kitOne K (.type t.nm) (.ref Cd) = some false := by
  unfold PySem.W.kitOne
  rw [if_neg (by intro h; simp at h)]
  show (if ((PySem.W.clsIn K Cd).isSome && PySem.W.typeIn K (.ref Cd) == some (.type "type")) = true then PySem.W.subIn K (.type t.nm) (.ref Cd) else none) = some false
  have h := O.ci
  unfold PySem.W.isClsIn at h
  rw [if_pos (by rw [h, O.ti]; simp), O.sub t]
theorem OwnC.kitSelf {K : PySem.W.Frag} {Cd : Addr} : PySem.W.kitOne K (.ref Cd) (.ref Cd) = some true := by
  unfold PySem.W.kitOne
  rw [if_pos (by simp)]
theorem OwnC.first {K : PySem.W.Frag} {Cd : Addr} (O : OwnC K Cd) (t : Ty) : PySem.W.notFirst K Cd (.type t.nm) = true := by
  unfold PySem.W.notFirst
  rw [O.sub t]
  simp
theorem OwnC.firstSelf {K : PySem.W.Frag} {Cd : Addr} : PySem.W.notFirst K Cd (.ref Cd) = true := by
  unfold PySem.W.notFirst
  simp
theorem ins_tyx {H : Hp} {ρ : Pl} {st : Sto} {v : V} {w : W} {c : Nat} {Cd : Addr} {nm : List Str} (S : RelS C H ρ st) (r : Rep C.K H ρ st v w) (hc : C.cls[c]? = some (Cd, nm)) (O : OwnC C.K Cd) (h : isIns c w st = true) : TyX C.K H v (.ref Cd) := by
  obtain ⟨l, a, dx, fs, fvs, rfl, rfl, q1, q2, q3, q4⟩ := isIns_rep S r hc h
  exact .base (.ins q3 O.cl O.ha O.hn O.tk O.mr)
def isiO (c : Nat) (x : W) (s : Sto) : R W := if isIns c x s = true then .ok (.bl true) s else match tyOf s x with
  | some _ => .ok (.bl false) s
  | none => .no
theorem me_isiO {c : Nat} {Cd : Addr} {nm : List Str} {p p2 : Pos} {x : Str} (hK : C.K = X.K) (hc : C.cls[c]? = some (Cd, nm)) (O : OwnC X.K Cd) (ha : ME X C E a ma) (hgx : Gl X x) (hmx : X.mg x = some (.ref Cd)) (hg : Gl X "isinstance") (hm : X.mg "isinstance" = none)
    (hd : (x == ("__debug__" : Str)) = false := by decide)
    (he : starEach [a, .Name x p2] X.env = (false, eval a X.env) :: starEach [.Name x p2] X.env := by rfl) (he2 : starEach [.Name x p2] X.env = (false, eval (.Name x p2) X.env) :: starEach [] X.env := by rfl) (hpl : (backTo pos (starEach [.Name x p2] X.env)).any (·.1) = false := by rfl) :
    ME X C E (.Call (.Name "isinstance" p) [a, .Name x p2] [] pos) (un (isiO c) ma) := by
  have hcx : PE X (.Name x p2) (tC (.ref Cd)) := pe_glob hgx hmx (v := .ref Cd) rfl hd
  refine PE.imp (pe_callB call_isi hg hm (by decide +kernel) (pa_cons ha (pa_cons hcx pa_nil he2) he) (by decide) (by decide) he hpl) fun σ H Q ⟨ρ, st, env, re, S, p⟩ => ⟨ρ, st, env, re, S, Post.bind p fun x s1 H1 ρ1 v _ e1 S1 r1 p1 => ?_⟩
  unfold isiO at p1
  split at p1
  · rename_i hi
    exact ⟨v, .ref Cd, .ref Cd, .ref Cd, true, rfl, .own _, hK ▸ ins_tyx S1 r1 hc (hK ▸ O) hi, OwnC.kitSelf, p1 H1 ρ1 _ (Evo.refl ..) S1 (.bl _)⟩
  · split at p1
    · rename_i t ht
      exact ⟨v, .ref Cd, .type t.nm, .ref Cd, false, rfl, .own _, hK ▸ tyOf_rep S1 r1 ht, O.kit t, p1 H1 ρ1 _ (Evo.refl ..) S1 (.bl _)⟩
    · exact p1.elim
/-- == by the text's own __eq__ -/
def rEqO (X : Cx) (C : MC) (Cd : Addr) (d : List W → Sto → R W) : R2 := fun x y H Q => ∃ a dx fvs tb, x = .ref a ∧ H a = some (.ins Cd dx fvs) ∧ TyX X.K H y tb ∧ PySem.W.notFirst X.K Cd tb = true ∧ ∃ E', sp0 C 2 d [x, y] H (fun v H' => ∃ b, v = .bl b ∧ Q v H') E'
theorem op_eqO {k : Nat} {f Cd : Addr} {fd : FuncData} {ps : List Str} {d : List W → Sto → R W} (F : FnOk X.prog X.w X.K X.mg X.base CX0 k f fd ps (sp0 C 2 d)) (hr : Room k X.A)
    (hs : PySem.W.findIn X.K (.ref Cd) "__eq__" = some (some (.ref f))) (hf : PySem.W.isFn X.K (.ref f) = true) (hb : Binds X.K fd ps []) : OpR X (compareOp .Eq) (rEqO X C Cd d) := by
  intro pins s σ H x y v u Q I rx ry ⟨a, dx, fvs, tb, ex, ha, ty, hn, E', hsp⟩
  subst ex
  obtain rfl : v = Value.ref a := rx
  obtain ⟨P, kx, hp, _⟩ := kit_of I ry ty
  obtain ⟨mA, J, _⟩ := ins_get I.hok ha
  obtain ⟨od, J, _⟩ := J.look
  obtain ⟨m, hF⟩ := I.fr
  show wpAny (model X.prog X.w) X.A (richCompare .Eq (.ref a) u) (EP X pins σ Q) X.xe s
  refine PySem.W.cmp_K (op := .Eq) (tb := tb) hr.units0 hF I.ok.mod.kin J (kx.ty _ _ I.kIn hp) hn hs hf ?_
  have hl := F.len _ _ _ _ hsp
  have r2 : Vals [V.ref a, y] [Value.ref a, u] := .cons rfl (.cons ry .nil)
  refine wpAny_call (codeAny_mono (F.run X.A X.stack s H ⟨[.ref a, u], []⟩ [.ref a, u] [.ref a, y] _ _ hr I.env0 (by
    have := hb s [.ref a, u] I.kIn (by simpa using hl)
    simpa using this) r2 hsp) fun r s' hq => ?_)
  cases r with
  | error e => exact pass0 pins σ H s e s' I hq
  | ok fl =>
    cases fl with
    | ret w =>
      obtain ⟨z, H', I', rz, b, ez, hQ⟩ := I.after hq
      subst ez
      cases rz
      exact ⟨.bl b, H', I', rfl, hQ⟩
    | next => exact False.elim hq
    | brk => exact False.elim hq
    | cont => exact False.elim hq
def eqO (c : Nat) (d : List W → Sto → R W) (x y : W) (s : Sto) : R W := if isIns c x s = true ∧ (isIns c y s = true ∨ (tyOf s y).isSome = true) then (d [x, y] s).bind fun z s' => match z with
    | .bl b => .ok (.bl b) s'
    | _ => .no else .no
theorem om_eqO {c : Nat} {Cd : Addr} {nm : List Str} {d : List W → Sto → R W} (hK : C.K = X.K) (hc : C.cls[c]? = some (Cd, nm)) (O : OwnC X.K Cd) : OpM C E0 (rEqO X C Cd d) (eqO c d) := by
  intro H ρ st v u x y Q S rx ry p
  unfold eqO at p
  split at p
  · rename_i h
    obtain ⟨h1, h2⟩ := h
    obtain ⟨l, a, dx, fs, fvs, rfl, rfl, q1, q2, q3, q4⟩ := isIns_rep S rx hc h1
    have fin : sp0 C 2 d [.ref a, u] H (fun v H' => ∃ b, v = .bl b ∧ Q v H') E0 := by
      refine ⟨rfl, ρ, st, [.loc l, y], .cons rx (.cons ry .nil), S, Post.bind p fun z s1 H1 ρ1 vz hz e1 S1 r1 p1 => ?_⟩
      split at p1
      · cases r1
        exact ⟨_, rfl, p1 H1 ρ1 _ (Evo.refl ..) S1 (.bl _)⟩
      · exact p1.elim
    by_cases hy : isIns c y st = true
    · exact ⟨a, dx, fvs, .ref Cd, rfl, q3, hK ▸ ins_tyx S ry hc (hK ▸ O) hy, OwnC.firstSelf, _, fin⟩
    · have h3 := h2.resolve_left hy
      cases ht : tyOf st y with
      | none => rw [ht] at h3; cases h3
      | some t => exact ⟨a, dx, fvs, .type t.nm, rfl, q3, hK ▸ tyOf_rep S ry ht, O.first t, _, fin⟩
  · exact p.elim
end
end ML

namespace Kp
open PySem L2 ML
noncomputable section
theorem eq_int (i j : Int) (s : Sto) : eqW (.int i) (.int j) s = .ok (.bl (i == j)) s := by
  simp [eqW, datS, lstOf, datW, SeqAt.shaped, PyData.canLay0, PyData.depth, PyData.eqv]
theorem ne_int (i j : Int) (s : Sto) : neW (.int i) (.int j) s = .ok (.bl (!(i == j))) s := by
  simp [neW, datS, lstOf, datW, SeqAt.shaped, PyData.canLay0, PyData.depth, PyData.eqv]
theorem eq_bl (i j : Bool) (s : Sto) : eqW (.bl i) (.bl j) s = .ok (.bl (i == j)) s := by
  simp [eqW, datS, lstOf, datW, SeqAt.shaped, PyData.canLay0, PyData.depth, PyData.eqv]
theorem ne_bl (i j : Bool) (s : Sto) : neW (.bl i) (.bl j) s = .ok (.bl (!(i == j))) s := by
  simp [neW, datS, lstOf, datW, SeqAt.shaped, PyData.canLay0, PyData.depth, PyData.eqv]
theorem set_last (s : Sto) (a b : O) : (s ++ [a]).set s.length b = s ++ [b] := by simp
theorem rngL_succ (lo : Int) (n : Nat) : rngL lo (n + 1) = W.int lo :: rngL (lo + 1) n := by
  unfold rngL
  rw [List.range_succ_eq_map, List.map_cons, List.map_map]
  congr 1
  · show W.int (lo + ((0 : Nat) : Int)) = _
    rw [show lo + ((0 : Nat) : Int) = lo by omega]
  · apply List.map_congr_left
    intro i _
    show W.int (lo + ((i + 1 : Nat) : Int)) = W.int (lo + 1 + (i : Int))
    rw [show lo + ((i + 1 : Nat) : Int) = lo + 1 + (i : Int) by omega]
theorem rngL_zero (lo : Int) : rngL lo 0 = [] := rfl
theorem smI_small {n : Int} (h : 0 ≤ n) (h2 : n ≤ 1000000000) : smI n = true := by
  unfold smI
  rw [ck_iff]
  omega
theorem at0 (s : Sto) (a : O) (xs : List O) : (s ++ a :: xs)[s.length]? = some a := by simp
theorem set0 (s : Sto) (a b : O) (xs : List O) : (s ++ a :: xs).set s.length b = s ++ b :: xs := by simp
theorem dat_ints (s : Sto) (n : Nat) (ns : List Int) : (ns.map W.int).mapM (datS s n) = some (ns.map PyData.int) := by
  induction ns with
  | nil => rfl
  | cons x xs ih =>
    have e : datS s n (.int x) = some (.int x) := by cases n <;> simp [datS, lstOf, datW]
    simp only [List.map_cons, List.mapM_cons, e, ih]
    rfl
theorem lay_ints (ns : List Int) : PyData.canLayAll0 (ns.map PyData.int) = true := by
  induction ns with
  | nil => rfl
  | cons x xs ih => simp [PyData.canLayAll0, PyData.canLay0, ih]
theorem depth_ints (ns : List Int) : PyData.depthAll (ns.map PyData.int) ≤ 1 := by
  induction ns with
  | nil => simp [PyData.depthAll]
  | cons x xs ih => simp only [List.map_cons, PyData.depthAll, PyData.depth]; omega
theorem shaped_ints (ns : List Int) : SeqAt.shaped (.list (ns.map PyData.int)) = true := by
  have h := depth_ints ns
  unfold SeqAt.shaped
  rw [Bool.and_eq_true]
  exact ⟨by simp only [PyData.canLay0]; exact lay_ints ns, decide_eq_true (by simp only [PyData.depth]; omega)⟩
theorem eqv_ints : ∀ (xs ys : List Int), PyData.eqvAll (xs.map PyData.int) (ys.map PyData.int) = decide (xs = ys)
  | [], [] => by simp [PyData.eqvAll]
  | [], _ :: _ => by simp [PyData.eqvAll]
  | _ :: _, [] => by simp [PyData.eqvAll]
  | x :: xs, y :: ys => by
    simp only [List.map_cons, PyData.eqvAll, PyData.eqv, eqv_ints xs ys]
    by_cases h : x = y <;> simp [h]
theorem dat_lst {s : Sto} {w : W} {ns : List Int} (h : lstOf s w = some (ns.map W.int)) : datS s 3 w = some (.list (ns.map PyData.int)) := by
  unfold datS
  rw [h]
  simp only [dat_ints, Option.map_some]
theorem eq_lsts {s : Sto} {x y : W} {xs ys : List Int} (h1 : lstOf s x = some (xs.map W.int)) (h2 : lstOf s y = some (ys.map W.int)) : eqW x y s = .ok (.bl (decide (xs = ys))) s := by
  simp only [eqW, dat_lst h1, dat_lst h2, shaped_ints, PyData.eqv, eqv_ints, and_self, if_true]
theorem ne_lsts {s : Sto} {x y : W} {xs ys : List Int} (h1 : lstOf s x = some (xs.map W.int)) (h2 : lstOf s y = some (ys.map W.int)) : neW x y s = .ok (.bl (!decide (xs = ys))) s := by
  simp only [neW, dat_lst h1, dat_lst h2, shaped_ints, PyData.eqv, eqv_ints, and_self, if_true]
theorem atI_l0 {α : Type} (x : α) (xs : List α) : atI (x :: xs) 0 = some x := atI_nat (j := 0) rfl
theorem atI_l1 {α : Type} (x y : α) (xs : List α) : atI (x :: y :: xs) 1 = some y := atI_nat (j := 1) rfl
theorem atI_l2 {α : Type} (x y z : α) (xs : List α) : atI (x :: y :: z :: xs) 2 = some z := atI_nat (j := 2) rfl
theorem atI_l3 {α : Type} (x y z u : α) (xs : List α) : atI (x :: y :: z :: u :: xs) 3 = some u := atI_nat (j := 3) rfl
theorem cutL_to {α : Type} (ws : List α) (k : Nat) : cutL ws none (some (k : Int)) = ws.take k := by
  unfold cutL
  rw [HT.sIx_none, HT.sIx_nat, List.drop_zero, Nat.sub_zero, ← List.take_eq_take_min]
theorem cutL_from {α : Type} (ws : List α) (k : Nat) : cutL ws (some (k : Int)) none = ws.drop k := by
  unfold cutL
  rw [HT.sIx_none, HT.sIx_nat]
  by_cases h : k ≤ ws.length
  · rw [Nat.min_eq_left h, List.take_of_length_le (by simp)]
  · rw [Nat.min_eq_right (by omega), List.drop_eq_nil_of_le (Nat.le_refl _), List.drop_eq_nil_of_le (by omega)]
    simp

/-! Picture_eq -/
def r_Picture_eq : List W → Sto → R W := bodyD 2 (sqS (ifS (notB (trB (un (isiO 0) (vr 1)))) (rtS (kk (.bl false))) passS) (sqS (ifS (orB (tb (bn neW (un (fldW 0 0) (vr 0)) (un (fldW 0 0) (vr 1)))) (tb (bn neW (un (fldW 0 1) (vr 0)) (un (fldW 0 1) (vr 1))))) (rtS (kk (.bl false))) passS) (rtS (andE (bn eqW (un (fldW 0 2) (vr 0)) (un (fldW 0 2) (vr 1))) (andE (bn eqW (un (fldW 0 3) (vr 0)) (un (fldW 0 3) (vr 1))) (bn eqW (un (fldW 0 4) (vr 0)) (un (fldW 0 4) (vr 1))))))))
abbrev d_Picture_eq : List W → Sto → R W := r_Picture_eq
/-! Picture_init -/
def r_Picture_init : List W → Sto → R W := bodyD 7 (sqS (setFS 0 0 (vr 0) (vr 1)) (sqS (setFS 0 1 (vr 0) (vr 2)) (sqS (setFS 0 2 (vr 0) (lcE [6] (sqI (vr 3)) (ct1 6) yesB (clE listF (axc (vr 6) axn)))) (sqS (setFS 0 3 (vr 0) (vr 4)) (setFS 0 4 (vr 0) (vr 5))))))
abbrev d_Picture_init : List W → Sto → R W := r_Picture_init
/-! _law_cell -/
def r__law_cell : List W → Sto → R W := bodyD 2 (sqS (ifS (tb (bn ltW (vr 1) (clE lenF (axc (vr 0) axn)))) (rtS (clE intF (axc (bn ixW (vr 0) (vr 1)) axn))) passS) (rtS (kk (.int 0))))
abbrev d__law_cell : List W → Sto → R W := r__law_cell
theorem cell_den (ns : List Int) (k : Nat) (st : Sto) : r__law_cell [.kl (ns.map W.int), .int k] st = .ok (.int (ns.getD k 0)) st := by
  unfold r__law_cell
  simp [bodyD, pad, sqS, ifS, orB, andB, notB, tb, bn, un, addW, mulW, negW, notW, mulOk, int0, intW, vr, kk, rtS, rnS, exS, orE, andE, chn, ifE, trB, truW, lstOf, seqOf, lstK, passS, noS, setS, asgS, parS, axc, axn, flE, lsE, tupE, clE, mthE, mkE, isIns, fldW, setFS, augFS, setFd, gFd, gNm, gTp, gsC, gsN, augS, lenF, absF, intF, allF, anyF, sumF, maxF, minF, listF, listLF, tupF, isiW, tyOf, Ty.le, ixW, lmE, appF, extF, popF, flatW, veqW, inW, ninW, forS, sqI, lpS, forL, rg1, rg2, slE, slF, slLF, oxn, oxs, inT, getT, isnW, nonW, isbW, nibW, idxF, firstI, gSb, setI, ixN, bkS, ctS, whS, eq_int, ne_int, eq_bl, ne_bl, atI_l0, atI_l1, atI_l2, atI_l3]
  by_cases h : k < ns.length
  · have e : (ns.map W.int)[k]? = some (.int (ns.getD k 0)) := by simp [h]
    simp [h, atI_nat e]
  · have e : ns[k]? = none := List.getElem?_eq_none_iff.mpr (by omega)
    simp [h, List.getD, e]

def b__law_row_0 : Sx := (ifS (tb (bn geW (vr 3) (vr 2))) (sqS (exS (lmE appF (vr 5) (axc (bn modW (clE intF (axc (vr 3) axn)) (vr 2)) axn))) (setS 3 (bn fdivW (vr 3) (vr 2)))) (sqS (setS 4 (bn modW (clE intF (axc (bn addW (bn addW (bn mulW (vr 4) (kk (.int 48271))) (bn mulW (kk (.int 11)) (vr 6))) (kk (.int 7))) axn)) (kk (.int 2147483647)))) (exS (lmE appF (vr 5) (axc (bn modW (clE intF (axc (bn fdivW (bn mulW (vr 4) (kk (.int 2862933555777941757))) (kk (.int 1024))) axn)) (vr 2)) axn)))))
/-! _law_row -/
def r__law_row : List W → Sto → R W := bodyD 7 (sqS (setS 3 (clE absF (axc (clE intF (axc (vr 0) axn)) axn))) (sqS (setS 4 (bn addW (bn modW (clE intF (axc (vr 0) axn)) (kk (.int 1000003))) (kk (.int 1)))) (sqS (setS 5 (lsE axn)) (sqS (forS (rg1 (axc (vr 1) axn)) (gNm 6) b__law_row_0) (rtS (vr 5))))))
def rowF (b : Int) : Nat → Int → Int → Int → List Int
  | 0, _, _, _ => []
  | n + 1, k, rest, mixed => if b ≤ rest then rest % b :: rowF b n (k + 1) (rest / b) mixed
    else ((mixed * 48271 + 11 * k + 7) % 2147483647 * 2862933555777941757 / 1024) % b :: rowF b n (k + 1) rest ((mixed * 48271 + 11 * k + 7) % 2147483647)
def rowL (c : Int) (n : Nat) (b : Int) : List Int := rowF b n 0 (if c < 0 then -c else c) (c % 1000003 + 1)
theorem rowF_length (b : Int) : ∀ (n : Nat) (k rest mixed : Int), (rowF b n k rest mixed).length = n
  | 0, _, _, _ => rfl
  | n + 1, k, rest, mixed => by unfold rowF; split <;> simp [rowF_length b n]
theorem rowF_mem (b : Int) (hb : 0 < b) : ∀ (n : Nat) (k rest mixed : Int), ∀ x ∈ rowF b n k rest mixed, 0 ≤ x ∧ x < b
  | 0, _, _, _ => by intro x h; cases h
  | n + 1, k, rest, mixed => by
    intro x h
    unfold rowF at h
    split at h
    · rcases List.mem_cons.mp h with e | h
      · rw [e]; exact ⟨Int.emod_nonneg _ (by omega), Int.emod_lt_of_pos _ hb⟩
      · exact rowF_mem b hb n _ _ _ x h
    · rcases List.mem_cons.mp h with e | h
      · rw [e]; exact ⟨Int.emod_nonneg _ (by omega), Int.emod_lt_of_pos _ hb⟩
      · exact rowF_mem b hb n _ _ _ x h
theorem rowL_length (c : Int) (n : Nat) (b : Int) : (rowL c n b).length = n := rowF_length ..
theorem rowL_mem {c : Int} {n : Nat} {b : Int} (hb : 0 < b) : ∀ x ∈ rowL c n b, 0 ≤ x ∧ x < b := fun x h => rowF_mem b hb _ _ _ _ x h
theorem row_body (c cnt b k rest mixed : Int) (acc : List W) (x : Option W) (st : Sto) (hl : acc.length < 10000000) (hb : 0 < b) (hb2 : b < 1073741824) :
    b__law_row_0 [some (.int c), some (.int cnt), some (.int b), some (.int rest), some (.int mixed), some (.loc st.length), some (.int k)] (st ++ [.lst acc]) =
      if b ≤ rest then .nx [some (.int c), some (.int cnt), some (.int b), some (.int (rest / b)), some (.int mixed), some (.loc st.length), some (.int k)] (st ++ [.lst (acc ++ [.int (rest % b)])])
      else .nx [some (.int c), some (.int cnt), some (.int b), some (.int rest), some (.int ((mixed * 48271 + 11 * k + 7) % 2147483647)), some (.loc st.length), some (.int k)] (st ++ [.lst (acc ++ [.int (((mixed * 48271 + 11 * k + 7) % 2147483647 * 2862933555777941757 / 1024) % b)])]) := by
  unfold b__law_row_0
  simp [bodyD, pad, sqS, ifS, orB, andB, notB, tb, bn, un, addW, mulW, negW, notW, mulOk, int0, intW, vr, kk, rtS, rnS, exS, orE, andE, chn, ifE, trB, truW, lstOf, seqOf, lstK, passS, noS, setS, asgS, parS, axc, axn, flE, lsE, tupE, clE, mthE, mkE, isIns, fldW, setFS, augFS, setFd, gFd, gNm, gTp, gsC, gsN, augS, lenF, absF, intF, allF, anyF, sumF, maxF, minF, listF, listLF, tupF, isiW, tyOf, Ty.le, ixW, lmE, appF, extF, popF, flatW, veqW, inW, ninW, forS, sqI, lpS, forL, rg1, rg2, slE, slF, slLF, oxn, oxs, inT, getT, isnW, nonW, isbW, nibW, idxF, firstI, gSb, setI, ixN, bkS, ctS, whS, eq_int, ne_int, eq_bl, ne_bl, atI_l0, atI_l1, atI_l2, atI_l3]
  simp [hl, hb, hb2]
theorem row_loop (c cnt b : Int) (st : Sto) (hb : 0 < b) (hb2 : b < 1073741824) : ∀ (m : Nat) (k rest mixed : Int) (acc : List W) (x : Option W), acc.length + m < 10000000 →
    ∃ e, forL (gNm 6) b__law_row_0 (rngL k m) [some (.int c), some (.int cnt), some (.int b), some (.int rest), some (.int mixed), some (.loc st.length), x] (st ++ [.lst acc]) =
        .nx e (st ++ [.lst (acc ++ (rowF b m k rest mixed).map W.int)]) ∧ e[5]? = some (some (.loc st.length)) := by
  intro m
  induction m with
  | zero => intro k rest mixed acc x _; exact ⟨_, by simp [rngL_zero, forL, rowF]; rfl, rfl⟩
  | succ m ih =>
    intro k rest mixed acc x hl
    rw [rngL_succ]
    unfold forL rowF
    simp only [gNm, R.toS_ok, lpS, List.set_cons_succ, List.set_cons_zero]
    rw [row_body c cnt b k rest mixed acc x st (by omega) hb hb2]
    split
    · obtain ⟨e, h1, h2⟩ := ih (k + 1) (rest / b) mixed (acc ++ [.int (rest % b)]) (some (.int k)) (by simp; omega)
      exact ⟨e, by simp only [SR.lp_nx]; rw [h1]; simp, h2⟩
    · obtain ⟨e, h1, h2⟩ := ih (k + 1) rest ((mixed * 48271 + 11 * k + 7) % 2147483647) (acc ++ [.int (((mixed * 48271 + 11 * k + 7) % 2147483647 * 2862933555777941757 / 1024) % b)]) (some (.int k)) (by simp; omega)
      exact ⟨e, by simp only [SR.lp_nx]; rw [h1]; simp, h2⟩
theorem row_den (c : Int) (n : Nat) (b : Int) (st : Sto) (hn : n ≤ 1000000) (hb : 0 < b) (hb2 : b < 1073741824) : r__law_row [.int c, .int n, .int b] st = .ok (.loc st.length) (st ++ [.lst ((rowL c n b).map W.int)]) := by
  unfold r__law_row
  simp [bodyD, pad, sqS, ifS, orB, andB, notB, tb, bn, un, addW, mulW, negW, notW, mulOk, int0, intW, vr, kk, rtS, rnS, exS, orE, andE, chn, ifE, trB, truW, lstOf, seqOf, lstK, passS, noS, setS, asgS, parS, axc, axn, flE, lsE, tupE, clE, mthE, mkE, isIns, fldW, setFS, augFS, setFd, gFd, gNm, gTp, gsC, gsN, augS, lenF, absF, intF, allF, anyF, sumF, maxF, minF, listF, listLF, tupF, isiW, tyOf, Ty.le, ixW, lmE, appF, extF, popF, flatW, veqW, inW, ninW, forS, sqI, lpS, forL, rg1, rg2, slE, slF, slLF, oxn, oxs, inT, getT, isnW, nonW, isbW, nibW, idxF, firstI, gSb, setI, ixN, bkS, ctS, whS, eq_int, ne_int, eq_bl, ne_bl, atI_l0, atI_l1, atI_l2, atI_l3]
  obtain ⟨e, h1, h2⟩ := row_loop c n b st hb hb2 n 0 (if c < 0 then -c else c) (c % 1000003 + 1) [] none (by simp; omega)
  simp only [List.nil_append] at h1
  rw [if_pos (smI_small (by omega) (by omega)), h1]
  simp [rtS, vr, h2, rowL]
def d__law_row (ws : List W) (st : Sto) : R W := match ws with
  | [.int c, .int n, .int b] => if ck (0 ≤ n ∧ n ≤ 1000000 ∧ 0 < b ∧ b < 1073741824) = true then .ok (.fl ((rowL c n.toNat b).map W.int)) st else .no
  | _ => .no
theorem gz__law_row : Gz 3 r__law_row d__law_row := by
  refine Gz.pure (fun ws st w st' hl hw e => ?_) (fun ws st c s e => ?_)
  · unfold d__law_row at e
    split at e
    · rename_i c n b
      split at e
      · rename_i h
        rw [ck_iff] at h
        obtain ⟨h1, h2, h3, h4⟩ := h
        cases e
        obtain ⟨m, rfl⟩ := Int.eq_ofNat_of_zero_le h1
        exact ⟨rfl, _, _, 2, row_den c m b st (by omega) h3 h4, fz_ints⟩
      · cases e
    · cases e
  · unfold d__law_row at e
    split at e
    · split at e <;> cases e
    · cases e
theorem rowd (c : Int) (n : Int) (b : Int) (st : Sto) (h0 : 0 ≤ n) (hn : n ≤ 1000000) (hb : 0 < b) (hb2 : b < 1073741824) : d__law_row [.int c, .int n, .int b] st = .ok (.fl ((rowL c n.toNat b).map W.int)) st := by
  exact if_pos (ck_iff.mpr ⟨h0, hn, hb, hb2⟩)

def b__law_cells_0 : Sx := (exS (lmE appF (vr 4) (axc (lcE [7] (rg1 (axc (vr 1) axn)) (ct1 7) yesB (tupE (axc (bn addW (kk (.int 97)) (bn modW (bn ixW (vr 5) (bn addW (bn mulW (vr 6) (vr 1)) (vr 7))) (kk (.int 4)))) (axc (bn ixW (vr 3) (bn fdivW (bn ixW (vr 5) (bn addW (bn mulW (vr 6) (vr 1)) (vr 7))) (kk (.int 4)))) axn)))) axn)))
/-! _law_cells -/
def r__law_cells : List W → Sto → R W := bodyD 8 (sqS (setS 3 (flE (axc (tupE (axc (un negW (kk (.int 1))) (axc (un negW (kk (.int 1))) (axc (kk (.int 0)) axn)))) (axc (tupE (axc (kk (.int 1)) (axc (un negW (kk (.int 1))) (axc (kk (.int 0)) axn)))) (axc (tupE (axc (un negW (kk (.int 1))) (axc (kk (.int 255)) (axc (kk (.int 8)) axn)))) axn))))) (sqS (setS 4 (lsE axn)) (sqS (setS 5 (clE d__law_row (axc (vr 0) (axc (bn mulW (vr 1) (vr 2)) (axc (kk (.int 12)) axn))))) (sqS (forS (rg1 (axc (vr 2) axn)) (gNm 6) b__law_cells_0) (rtS (vr 4))))))
structure Cell where
  p : Int
  f : Int
  b : Int
  m : Int
deriving DecidableEq
def cellW (c : Cell) : W := .tup [.int c.p, .tup [.int c.f, .int c.b, .int c.m]]
def cellD (c : Cell) : PyData := .tuple [.int c.p, .tuple [.int c.f, .int c.b, .int c.m]]
abbrev Grid := List (List Cell)
def rowW (r : List Cell) : W := .fl (r.map cellW)
def gridW (G : Grid) : W := .fl (G.map rowW)
def rowsAre (s : Sto) : List W → Grid → Prop
  | [], [] => True
  | w :: ws, r :: rs => lstOf s w = some (r.map cellW) ∧ rowsAre s ws rs
  | _, _ => False
def gridIs (s : Sto) (x : W) (G : Grid) : Prop := ∃ ws, lstOf s x = some ws ∧ rowsAre s ws G
theorem rowsAre_fl (s : Sto) : ∀ G : Grid, rowsAre s (G.map rowW) G
  | [] => True.intro
  | r :: G => ⟨rfl, rowsAre_fl s G⟩
theorem gridIs_fl (s : Sto) (G : Grid) : gridIs s (gridW G) G := ⟨_, rfl, rowsAre_fl s G⟩
theorem dat_cell (s : Sto) (n : Nat) (c : Cell) : datS s n (cellW c) = some (cellD c) := by
  cases n <;> simp [cellW, cellD, datS, lstOf, datW, datL]
theorem dat_cells (s : Sto) (n : Nat) : ∀ r : List Cell, (r.map cellW).mapM (datS s n) = some (r.map cellD)
  | [] => rfl
  | c :: r => by simp only [List.map_cons, List.mapM_cons, dat_cell, dat_cells s n r]; rfl
theorem dat_rows (s : Sto) (n : Nat) : ∀ (ws : List W) (G : Grid), rowsAre s ws G → ws.mapM (datS s (n + 1)) = some (G.map fun r => PyData.list (r.map cellD))
  | [], [], _ => rfl
  | w :: ws, r :: G, h => by
    have e : datS s (n + 1) w = some (.list (r.map cellD)) := by
      unfold datS
      rw [h.1]
      simp only [dat_cells, Option.map_some]
    simp only [List.map_cons, List.mapM_cons, e, dat_rows s n ws G h.2]
    rfl
  | [], _ :: _, h => h.elim
  | _ :: _, [], h => h.elim
def gridD (G : Grid) : PyData := .list (G.map fun r => PyData.list (r.map cellD))
theorem dat_grid {s : Sto} {x : W} {G : Grid} (h : gridIs s x G) : datS s 3 x = some (gridD G) := by
  obtain ⟨ws, h1, h2⟩ := h
  unfold datS
  rw [h1]
  simp only [dat_rows s 1 ws G h2, Option.map_some]
  rfl
theorem eqv_map {α : Type} [DecidableEq α] {f : α → PyData} (h : ∀ a b, PyData.eqv (f a) (f b) = decide (a = b)) : ∀ xs ys : List α, PyData.eqvAll (xs.map f) (ys.map f) = decide (xs = ys)
  | [], [] => by simp [PyData.eqvAll]
  | [], _ :: _ => by simp [PyData.eqvAll]
  | _ :: _, [] => by simp [PyData.eqvAll]
  | x :: xs, y :: ys => by
    simp only [List.map_cons, PyData.eqvAll, h, eqv_map h xs ys]
    by_cases e : x = y <;> simp [e]
theorem eqv_cell (a b : Cell) : PyData.eqv (cellD a) (cellD b) = decide (a = b) := by
  obtain ⟨p, f, g, m⟩ := a
  obtain ⟨p', f', g', m'⟩ := b
  simp only [cellD, PyData.eqv, PyData.eqvAll, Cell.mk.injEq]
  by_cases h1 : p = p' <;> by_cases h2 : f = f' <;> by_cases h3 : g = g' <;> by_cases h4 : m = m' <;> simp [h1, h2, h3, h4]
theorem eqv_row (a b : List Cell) : PyData.eqv (.list (a.map cellD)) (.list (b.map cellD)) = decide (a = b) := by
  simp only [PyData.eqv, eqv_map eqv_cell]
theorem eqv_grid (a b : Grid) : PyData.eqv (gridD a) (gridD b) = decide (a = b) := by
  simp only [gridD, PyData.eqv]
  exact eqv_map (f := fun r => PyData.list (r.map cellD)) eqv_row a b
theorem lay_map {α : Type} {f : α → PyData} (h : ∀ a, PyData.canLay0 (f a) = true) : ∀ xs : List α, PyData.canLayAll0 (xs.map f) = true
  | [] => by simp [PyData.canLayAll0]
  | x :: xs => by simp [PyData.canLayAll0, h x, lay_map h xs]
theorem depth_map {α : Type} {f : α → PyData} {n : Nat} (h : ∀ a, (f a).depth ≤ n) : ∀ xs : List α, PyData.depthAll (xs.map f) ≤ n + 1
  | [] => by simp [PyData.depthAll]
  | x :: xs => by
    have := h x
    have := depth_map h xs
    simp only [List.map_cons, PyData.depthAll]
    omega
theorem shaped_cell (c : Cell) : SeqAt.shaped (cellD c) = true := by
  simp [SeqAt.shaped, cellD, PyData.canLay0, PyData.canLayAll0, PyData.depth, PyData.depthAll]
theorem lay_cell (c : Cell) : PyData.canLay0 (cellD c) = true := by simp [cellD, PyData.canLay0, PyData.canLayAll0]
theorem depth_cell (c : Cell) : (cellD c).depth ≤ 4 := by simp [cellD, PyData.depth, PyData.depthAll]
theorem shaped_grid (G : Grid) : SeqAt.shaped (gridD G) = true := by
  have l1 : ∀ r : List Cell, PyData.canLay0 (.list (r.map cellD)) = true := fun r => by simp only [PyData.canLay0]; exact lay_map lay_cell r
  have d1 : ∀ r : List Cell, (PyData.list (r.map cellD)).depth ≤ 6 := fun r => by
    have := depth_map depth_cell r
    simp only [PyData.depth]; omega
  have d2 := depth_map d1 G
  unfold SeqAt.shaped
  rw [Bool.and_eq_true]
  exact ⟨by unfold gridD; simp only [PyData.canLay0]; exact lay_map l1 G, decide_eq_true (by unfold gridD; simp only [PyData.depth]; omega)⟩
theorem eq_grid {s : Sto} {x y : W} {G G2 : Grid} (h1 : gridIs s x G) (h2 : gridIs s y G2) : eqW x y s = .ok (.bl (decide (G = G2))) s := by
  simp only [eqW, dat_grid h1, dat_grid h2, shaped_grid, eqv_grid, and_self, if_true]
theorem ne_grid {s : Sto} {x y : W} {G G2 : Grid} (h1 : gridIs s x G) (h2 : gridIs s y G2) : neW x y s = .ok (.bl (!decide (G = G2))) s := by
  simp only [neW, dat_grid h1, dat_grid h2, shaped_grid, eqv_grid, and_self, if_true]
theorem dat_cell3 (s : Sto) (c : Cell) : datS s 3 (cellW c) = some (cellD c) := dat_cell s 3 c
theorem eq_cell (a b : Cell) (s : Sto) : eqW (cellW a) (cellW b) s = .ok (.bl (decide (a = b))) s := by
  simp only [eqW, dat_cell3, shaped_cell, eqv_cell, and_self, if_true]
theorem ne_cell (a b : Cell) (s : Sto) : neW (cellW a) (cellW b) s = .ok (.bl (!decide (a = b))) s := by
  simp only [neW, dat_cell3, shaped_cell, eqv_cell, and_self, if_true]
def curW (r c : Int) : W := .tup [.int r, .int c]
theorem eq_cur (a b c d : Int) (s : Sto) : eqW (curW a b) (curW c d) s = .ok (.bl (decide (a = c ∧ b = d))) s := by
  simp [eqW, curW, datS, lstOf, datW, datL, SeqAt.shaped, PyData.canLay0, PyData.canLayAll0, PyData.depth, PyData.depthAll, PyData.eqv, PyData.eqvAll]
  rfl
theorem ne_cur (a b c d : Int) (s : Sto) : neW (curW a b) (curW c d) s = .ok (.bl (!decide (a = c ∧ b = d))) s := by
  simp [neW, curW, datS, lstOf, datW, datL, SeqAt.shaped, PyData.canLay0, PyData.canLayAll0, PyData.depth, PyData.depthAll, PyData.eqv, PyData.eqvAll]
  rfl
def picO (w h : Int) (G : Grid) (r c : Int) (v : Bool) : O := .ins 0 [some (.int w), some (.int h), some (gridW G), some (curW r c), some (.bl v)]
/-- a comprehension over a list, the store stays -/
theorem lcL_pure {g : W → En → Option En} {e : Ex} {env : En} {f : W → W} {st : Sto} : ∀ ws : List W, (∀ x ∈ ws, ∃ env1, g x env = some env1 ∧ e env1 st = .ok (f x) st) → lcL g yesB e env ws st = .ok (ws.map f) st
  | [], _ => rfl
  | w :: ws, h => by
    obtain ⟨env1, h1, h2⟩ := h w (by simp)
    have h3 : yesB env1 st = .ok true st := rfl
    simp only [List.map_cons, lcL, h1, h3, R.bind_ok, if_true, h2, lcL_pure ws fun x hx => h x (by simp [hx])]
theorem lcF_pure {g : W → En → Option En} {e : Ex} {env : En} {f : W → W} {st : Sto} {src : Nat → Sto → Option (Option W)} {ws : List W} (hf : ∀ i, src i st = some ws[i]?) (h : ∀ x ∈ ws, ∃ env1, g x env = some env1 ∧ e env1 st = .ok (f x) st) (hl : ws.length < 1000000) :
    lcF src g yesB e env (ws.length + 1) 0 [] st = .ok (ws.map f) st := by
  have key : ∀ (n i : Nat) (acc : List W), ws.length < n + i → i ≤ ws.length → acc.length ≤ i → lcF src g yesB e env n i acc st = .ok (acc ++ (ws.drop i).map f) st := by
    intro n
    induction n with
    | zero => intro i acc h1 h2; omega
    | succ n ih =>
      intro i acc h1 h2 h3
      unfold lcF
      rw [hf i]
      by_cases hi : i < ws.length
      · have e2 : ws[i]? = some ws[i] := by simp [hi]
        obtain ⟨env1, q1, q2⟩ := h ws[i] (List.getElem_mem _)
        have q3 : yesB env1 st = .ok true st := rfl
        rw [List.drop_eq_getElem_cons hi]
        simp only [e2, q1, q3, R.bind_ok, if_true, q2]
        rw [if_pos (ck_iff.mpr (by omega)), ih (i + 1) _ (by omega) (by omega) (by simp; omega), List.map_cons, List.append_assoc]
        rfl
      · have e2 : ws[i]? = none := List.getElem?_eq_none_iff.mpr (by omega)
        have e3 : ws.drop i = [] := List.drop_eq_nil_of_le (by omega)
        simp only [e2, e3, List.map_nil, List.append_nil]
  have := key (ws.length + 1) 0 [] (by omega) (by omega) (by simp)
  rw [List.drop_zero] at this
  simpa using this
theorem lcS_pure {vs : List Nat} {m g e} {env : En} {f : W → W} {s0 st : Sto} {x : W} {ws : List W} (hm : m env s0 = .ok x st) (hx : lstOf st x = some ws) (hl : ws.length < 1000000) (h : ∀ x ∈ ws, ∃ env1, g x (wipeE env vs) = some env1 ∧ e env1 st = .ok (f x) st) :
    lcS vs (sqI m) g yesB e env s0 = .ok (ws.map f) st := by
  unfold lcS sqI
  rw [hm, R.bind_ok]
  cases x with
  | fl us =>
    cases hx
    simp only [R.bind_ok]
    rw [if_pos (ck_iff.mpr (by omega))]
    exact lcL_pure _ h
  | loc l =>
    have e1 : srcL (fun _ w => w) (.loc l) st = some (.dy (ws.length + 1) fun i st' => (lstOf st' (.loc l)).map fun ws => ws[i]?.map fun w => w) := by
      unfold srcL
      simp only [hx]
    simp only [e1, R.bind_ok]
    refine lcF_pure (fun i => ?_) h hl
    rw [hx]
    simp
  | _ => simp [lstOf] at hx
theorem mul_small {i j : Int} (h : 0 ≤ j) (h2 : j ≤ 1000000000) : mulOk i j = true := by
  unfold mulOk
  rw [ck_iff]
  right
  constructor
  · exact Int.lt_of_lt_of_le (by decide) h
  · exact Int.lt_of_le_of_lt h2 (by decide)
def cellOf (d : Int) : Cell := if d / 4 = 0 then ⟨97 + d % 4, -1, -1, 0⟩ else if d / 4 = 1 then ⟨97 + d % 4, 1, -1, 0⟩ else ⟨97 + d % 4, -1, 255, 8⟩
def rowG (row : List Int) (w r : Nat) : List Cell := (List.range w).map fun c => cellOf (row.getD (r * w + c) 0)
def gridG (row : List Int) (w h : Nat) : Grid := (List.range h).map (rowG row w)
def styW : W := .fl [.tup [.int (-1), .int (-1), .int 0], .tup [.int 1, .int (-1), .int 0], .tup [.int (-1), .int 255, .int 8]]
theorem rngL_mem {n : Nat} {x : W} (h : x ∈ rngL 0 n) : ∃ k : Nat, k < n ∧ x = .int k := by
  unfold rngL at h
  obtain ⟨k, hk, e⟩ := List.mem_map.mp h
  exact ⟨k, by simpa using hk, by rw [← e]; simp⟩
def cellF (row : List Int) (w r : Nat) : W → W
  | .int k => cellW (cellOf (row.getD (r * w + k.toNat) 0))
  | _ => .non
theorem cells_row (row : List Int) (w h r : Nat) (hr : r < h) (hw : w ≤ 100) (hlen : row.length = w * h) (hrow : ∀ x ∈ row, 0 ≤ x ∧ x < 12) (a b c d : W) (e8 : Option W) (s : Sto) :
    (lcE [7] (rg1 (axc (vr 1) axn)) (ct1 7) yesB (tupE (axc (bn addW (kk (.int 97)) (bn modW (bn ixW (vr 5) (bn addW (bn mulW (vr 6) (vr 1)) (vr 7))) (kk (.int 4)))) (axc (bn ixW (vr 3) (bn fdivW (bn ixW (vr 5) (bn addW (bn mulW (vr 6) (vr 1)) (vr 7))) (kk (.int 4)))) axn))))
      [some a, some (.int w), some b, some styW, some d, some (.fl (row.map W.int)), some (.int r), e8] s = .ok (rowW (rowG row w r)) s := by
  have hel : ∀ x ∈ rngL 0 w, ∃ env1, ct1 7 x (wipeE [some a, some (.int w), some b, some styW, some d, some (.fl (row.map W.int)), some (.int r), e8] [7]) = some env1 ∧
      (tupE (axc (bn addW (kk (.int 97)) (bn modW (bn ixW (vr 5) (bn addW (bn mulW (vr 6) (vr 1)) (vr 7))) (kk (.int 4)))) (axc (bn ixW (vr 3) (bn fdivW (bn ixW (vr 5) (bn addW (bn mulW (vr 6) (vr 1)) (vr 7))) (kk (.int 4)))) axn))) env1 s = .ok (cellF row w r x) s := by
    intro x hx
    obtain ⟨k, hk, rfl⟩ := rngL_mem hx
    refine ⟨_, rfl, ?_⟩
    have hj : r * w + k < row.length := by
      rw [hlen]
      have : (r + 1) * w ≤ h * w := Nat.mul_le_mul_right w (by omega)
      rw [Nat.mul_comm w h]
      rw [Nat.add_mul] at this
      omega
    have hg : row.getD (r * w + k) 0 = row[r * w + k] := by simp [List.getD, hj]
    have hm := hrow _ (List.getElem_mem hj)
    rw [← hg] at hm
    have e : (row.map W.int)[r * w + k]? = some (.int (row.getD (r * w + k) 0)) := by simp [hj, hg]
    have e2 : atI (row.map W.int) ((r : Int) * (w : Int) + (k : Int)) = some (.int (row.getD (r * w + k) 0)) := by
      have := atI_nat (j := r * w + k) e
      rw [show ((r * w + k : Nat) : Int) = (r : Int) * (w : Int) + (k : Int) by push_cast; rfl] at this
      exact this
    have hf : cellF row w r (.int k) = cellW (cellOf (row.getD (r * w + k) 0)) := by simp [cellF]
    rw [hf]
    generalize row.getD (r * w + k) 0 = d0 at e2 hm
    have hmk : mulOk (r : Int) (w : Int) = true := mul_small (by omega) (by omega)
    rcases (by omega : d0 / 4 = 0 ∨ d0 / 4 = 1 ∨ d0 / 4 = 2) with q | q | q
    · simp [wipeE, tupE, axc, axn, bn, addW, mulW, intW, int0, vr, kk, ct1, ixW, seqOf, lstOf, hmk, e2, q, styW, cellW, cellOf, atI_l0, atI_l1, atI_l2]
    · simp [wipeE, tupE, axc, axn, bn, addW, mulW, intW, int0, vr, kk, ct1, ixW, seqOf, lstOf, hmk, e2, q, styW, cellW, cellOf, atI_l0, atI_l1, atI_l2]
    · simp [wipeE, tupE, axc, axn, bn, addW, mulW, intW, int0, vr, kk, ct1, ixW, seqOf, lstOf, hmk, e2, q, styW, cellW, cellOf, atI_l0, atI_l1, atI_l2]
  have hmap : (rngL 0 w).map (cellF row w r) = (rowG row w r).map cellW := by
    unfold rngL rowG
    rw [List.map_map, List.map_map]
    apply List.map_congr_left
    intro k _
    simp [cellF]
  have q := lcL_pure (rngL 0 w) hel
  have hll : (rngL 0 w).length < 10000000 := by simp [rngL]; omega
  unfold lcE lcS rg1
  simp only [axc, axn, vr, List.getElem?_cons_succ, List.getElem?_cons_zero, R.bind_ok]
  rw [if_pos (smI_small (by omega) (by omega))]
  simp only [R.bind_ok, Int.toNat_natCast]
  rw [if_pos (ck_iff.mpr hll), q, R.bind_ok, hmap]
  rfl
theorem cells_loop (row : List Int) (w h : Nat) (hw : w ≤ 100) (hlen : row.length = w * h) (hrow : ∀ x ∈ row, 0 ≤ x ∧ x < 12) (a b : W) (st : Sto) : ∀ (m r : Nat) (acc : Grid) (e7 e8 : Option W), r + m = h → acc.length = r → h ≤ 1000 →
    ∃ e, forL (gNm 6) b__law_cells_0 (rngL (r : Int) m) [some a, some (.int w), some b, some styW, some (.loc st.length), some (.fl (row.map W.int)), e7, e8] (st ++ [.lst (acc.map rowW)]) =
      .nx e (st ++ [.lst ((acc ++ (List.range m).map fun i => rowG row w (r + i)).map rowW)]) ∧ e[4]? = some (some (.loc st.length)) := by
  intro m
  induction m with
  | zero => intro r acc e7 e8 h1 h2 h3; exact ⟨_, by simp [rngL_zero, forL]; rfl, rfl⟩
  | succ m ih =>
    intro r acc e7 e8 h1 h2 h3
    rw [rngL_succ]
    unfold forL
    simp only [gNm, R.toS_ok, lpS, List.set_cons_succ, List.set_cons_zero]
    have hc := cells_row row w h r (by omega) hw hlen hrow a b a (.loc st.length) e8 (st ++ [.lst (acc.map rowW)])
    have hb : b__law_cells_0 [some a, some (.int w), some b, some styW, some (.loc st.length), some (.fl (row.map W.int)), some (.int r), e8] (st ++ [.lst (acc.map rowW)]) =
        .nx [some a, some (.int w), some b, some styW, some (.loc st.length), some (.fl (row.map W.int)), some (.int r), e8] (st ++ [.lst ((acc ++ [rowG row w r]).map rowW)]) := by
      unfold b__law_cells_0
      simp only [exS, lmE, vr, List.getElem?_cons_succ, List.getElem?_cons_zero, R.bind_ok, lstK, lstOf, at0, axc, hc, axn, appF]
      simp [show acc.length < 10000000 by omega]
    rw [hb]
    simp only [SR.lp_nx]
    obtain ⟨e, q1, q2⟩ := ih (r + 1) (acc ++ [rowG row w r]) (some (.int r)) e8 (by omega) (by simp [h2]) h3
    refine ⟨e, ?_, q2⟩
    rw [show ((r + 1 : Nat) : Int) = (r : Int) + 1 by omega] at q1
    rw [q1]
    rw [List.range_succ_eq_map]
    simp [List.map_map, Function.comp, Nat.add_assoc, Nat.add_comm 1]
theorem cells_den (c : Int) (w h : Nat) (st : Sto) (hw : w ≤ 100) (hh : h ≤ 1000) : r__law_cells [.int c, .int w, .int h] st = .ok (.loc st.length) (st ++ [.lst ((gridG (rowL c (w * h) 12) w h).map rowW)]) := by
  have hwh : w * h ≤ 100 * 1000 := Nat.mul_le_mul hw hh
  have hr := fun s => rowd c ((w * h : Nat) : Int) 12 s (by omega) (by omega) (by omega) (by omega)
  rw [show ((w * h : Nat) : Int) = (w : Int) * (h : Int) by push_cast; rfl] at hr
  rw [show ((w : Int) * (h : Int)).toNat = w * h by rw [← Int.natCast_mul]; rfl] at hr
  have hmem := rowL_mem (c := c) (n := w * h) (b := 12) (by omega)
  have hlen := rowL_length c (w * h) 12
  generalize rowL c (w * h) 12 = row at hr hmem hlen
  obtain ⟨e, h1, h2⟩ := cells_loop row w h hw hlen hmem (.int c) (.int h) st h 0 [] none none (by omega) rfl hh
  have hmk : mulOk (w : Int) (h : Int) = true := mul_small (by omega) (by omega)
  unfold r__law_cells
  have hsty : (flE (axc (tupE (axc (un negW (kk (.int 1))) (axc (un negW (kk (.int 1))) (axc (kk (.int 0)) axn)))) (axc (tupE (axc (kk (.int 1)) (axc (un negW (kk (.int 1))) (axc (kk (.int 0)) axn)))) (axc (tupE (axc (un negW (kk (.int 1))) (axc (kk (.int 255)) (axc (kk (.int 8)) axn)))) axn)))) [some (.int c), some (.int w), some (.int h), none, none, none, none, none] st = .ok styW st := by
    simp [flE, axc, axn, tupE, un, negW, kk, styW]
  simp only [bodyD, pad, List.map, List.length, List.replicate, List.cons_append, List.nil_append, Nat.reduceAdd, Nat.reduceSub]
  unfold sqS setS
  rw [hsty]
  simp only [R.toS_ok, SR.go_nx, List.set_cons_succ, List.set_cons_zero, lsE, axn, R.bind_ok]
  simp only [clE, axc, axn, vr, List.getElem?_cons_succ, List.getElem?_cons_zero, R.bind_ok, bn, mulW, hmk, kk, if_true, hr, R.toS_ok, SR.go_nx, List.set_cons_succ, List.set_cons_zero, forS, rg1]
  rw [if_pos (smI_small (by omega) (by omega))]
  simp only [R.toS_ok, R.bind_ok, Int.toNat_natCast]
  rw [show ((0 : Nat) : Int) = 0 from rfl] at h1
  simp only [List.map_nil, List.nil_append, Nat.zero_add] at h1
  rw [h1]
  simp [rtS, vr, h2, fin, gridG]
theorem fz_cells {n : Nat} {s : Sto} {k : Nat} : ∀ r : List Cell, mapO (fz n s (k + 3)) (r.map cellW) = some (r.map cellW)
  | [] => rfl
  | c :: r => by
    simp only [List.map_cons]
    unfold mapO
    rw [fz_cells r]
    simp [cellW, fz, mapO]
theorem fz_rows {n : Nat} {s : Sto} {k : Nat} : ∀ G : Grid, mapO (fz n s (k + 4)) (G.map rowW) = some (G.map rowW)
  | [] => rfl
  | r :: G => by
    simp only [List.map_cons]
    unfold mapO
    rw [fz_rows G]
    simp [rowW, fz, fz_cells]
def d__law_cells (ws : List W) (st : Sto) : R W := match ws with
  | [.int c, .int w, .int h] => if ck (0 ≤ w ∧ w ≤ 100 ∧ 0 ≤ h ∧ h ≤ 1000) = true then .ok (gridW (gridG (rowL c (w.toNat * h.toNat) 12) w.toNat h.toNat)) st else .no
  | _ => .no
theorem gz__law_cells : Gz 3 r__law_cells d__law_cells := by
  refine Gz.pure (fun ws st w st' hl hw e => ?_) (fun ws st c s e => ?_)
  · unfold d__law_cells at e
    split at e
    · rename_i c w h
      split at e
      · rename_i hh
        rw [ck_iff] at hh
        obtain ⟨h1, h2, h3, h4⟩ := hh
        cases e
        obtain ⟨m, rfl⟩ := Int.eq_ofNat_of_zero_le h1
        obtain ⟨n, rfl⟩ := Int.eq_ofNat_of_zero_le h3
        refine ⟨rfl, _, _, 5, cells_den c m n st (by omega) (by omega), ?_⟩
        simp only [fz, Nat.lt_irrefl, if_false, at0, Int.toNat_natCast]
        rw [fz_rows (k := 0)]
        rfl
      · cases e
    · cases e
  · unfold d__law_cells at e
    split at e
    · split at e <;> cases e
    · cases e
theorem cellsd (c : Int) (w h : Nat) (st : Sto) (hw : w ≤ 100) (hh : h ≤ 1000) : d__law_cells [.int c, .int w, .int h] st = .ok (gridW (gridG (rowL c (w * h) 12) w h)) st :=
  if_pos (ck_iff.mpr ⟨by omega, by omega, by omega, by omega⟩)

/-! _law_integer -/
def r__law_integer : List W → Sto → R W := bodyD 1 (rtS (andE (un (isiW .int) (vr 0)) (un notW (un (isiW .bl) (vr 0)))))
abbrev d__law_integer : List W → Sto → R W := r__law_integer
theorem integer_int (i : Int) (st : Sto) : r__law_integer [.int i] st = .ok (.bl true) st := by
  unfold r__law_integer
  simp [bodyD, pad, sqS, ifS, orB, andB, notB, tb, bn, un, addW, mulW, negW, notW, mulOk, int0, intW, vr, kk, rtS, rnS, exS, orE, andE, chn, ifE, trB, truW, lstOf, seqOf, lstK, passS, noS, setS, asgS, parS, axc, axn, flE, lsE, tupE, clE, mthE, mkE, isIns, fldW, setFS, augFS, setFd, gFd, gNm, gTp, gsC, gsN, augS, lenF, absF, intF, allF, anyF, sumF, maxF, minF, listF, listLF, tupF, isiW, tyOf, Ty.le, ixW, lmE, appF, extF, popF, flatW, veqW, inW, ninW, forS, sqI, lpS, forL, rg1, rg2, slE, slF, slLF, oxn, oxs, inT, getT, isnW, nonW, isbW, nibW, idxF, firstI, gSb, setI, ixN, bkS, ctS, whS, eq_int, ne_int, eq_bl, ne_bl, atI_l0, atI_l1, atI_l2, atI_l3]
theorem integer_bl (i : Bool) (st : Sto) : r__law_integer [.bl i] st = .ok (.bl false) st := by
  unfold r__law_integer
  simp [bodyD, pad, sqS, ifS, orB, andB, notB, tb, bn, un, addW, mulW, negW, notW, mulOk, int0, intW, vr, kk, rtS, rnS, exS, orE, andE, chn, ifE, trB, truW, lstOf, seqOf, lstK, passS, noS, setS, asgS, parS, axc, axn, flE, lsE, tupE, clE, mthE, mkE, isIns, fldW, setFS, augFS, setFd, gFd, gNm, gTp, gsC, gsN, augS, lenF, absF, intF, allF, anyF, sumF, maxF, minF, listF, listLF, tupF, isiW, tyOf, Ty.le, ixW, lmE, appF, extF, popF, flatW, veqW, inW, ninW, forS, sqI, lpS, forL, rg1, rg2, slE, slF, slLF, oxn, oxs, inT, getT, isnW, nonW, isbW, nibW, idxF, firstI, gSb, setI, ixN, bkS, ctS, whS, eq_int, ne_int, eq_bl, ne_bl, atI_l0, atI_l1, atI_l2, atI_l3]

def b_difference_0 : Sx := (ifS (tb (bn neW (vr 5) (vr 6))) (augS 2 (int0 fun i j => .int (i + j)) (kk (.int 1))) passS)
def b_difference_1 : Sx := (forS (zpI (axc (vr 3) (axc (vr 4) axn))) (gTp 2 (gsC (gNm 5) (gsC (gNm 6) gsN))) b_difference_0)
/-! difference -/
def r_difference : List W → Sto → R W := bodyD 7 (sqS (setS 2 (kk (.int 0))) (sqS (forS (zpI (axc (un (fldW 0 2) (vr 0)) (axc (un (fldW 0 2) (vr 1)) axn))) (gTp 2 (gsC (gNm 3) (gsC (gNm 4) gsN))) b_difference_1) (rtS (vr 2))))
abbrev d_difference : List W → Sto → R W := r_difference
def b_law_0 : Sx := (sqS (setS 11 (clE d__law_cell (axc (vr 0) (axc (bn addW (kk (.int 3)) (vr 10)) axn)))) (sqS (setS 12 (bn modW (vr 11) (vr 3))) (sqS (setS 13 (bn modW (bn fdivW (vr 11) (vr 3)) (vr 2))) (sqS (ifS (tb (bn eqW (bn ixW (bn ixW (vr 8) (vr 12)) (vr 13)) (bn ixW (bn ixW (vr 4) (vr 12)) (vr 13)))) (setS 9 (bn addW (vr 9) (kk (.int 1)))) passS) (asgS (tupE (axc (bn addW (kk (.int 200)) (vr 10)) (axc (tupE (axc (un negW (kk (.int 1))) (axc (un negW (kk (.int 1))) (axc (kk (.int 0)) axn)))) axn))) (gSb (bn ixW (vr 8) (vr 12)) (vr 13)))))))
/-! law -/
def r_law : List W → Sto → R W := bodyD 17 (sqS (setS 1 (clE d__law_cell (axc (vr 0) (axc (kk (.int 0)) axn)))) (sqS (setS 2 (bn addW (kk (.int 2)) (bn modW (vr 1) (kk (.int 8))))) (sqS (setS 3 (bn addW (kk (.int 1)) (bn modW (bn fdivW (vr 1) (kk (.int 8))) (kk (.int 5))))) (sqS (setS 4 (clE d__law_cells (axc (clE d__law_cell (axc (vr 0) (axc (kk (.int 1)) axn))) (axc (vr 2) (axc (vr 3) axn))))) (sqS (setS 5 (tupE (axc (bn modW (bn fdivW (vr 1) (kk (.int 40))) (vr 3)) (axc (bn modW (bn fdivW (vr 1) (kk (.int 200))) (vr 2)) axn)))) (sqS (setS 6 (lcQ [16] (sqI (vr 4)) (ct1 16) yesB (clE listLF (axc (vr 16) axn)))) (sqS (setS 7 (mkE 0 5 d_Picture_init (axc (vr 2) (axc (vr 3) (axc (vr 6) (axc (vr 5) (axc (kk (.bl true)) axn))))))) (sqS (asgS (tupE (axc (kk (.int 65)) (axc (tupE (axc (kk (.int 2)) (axc (kk (.int 2)) (axc (kk (.int 2)) axn)))) axn))) (gSb (bn ixW (vr 6) (kk (.int 0))) (kk (.int 0)))) (sqS (exS (lmE appF (vr 6) (axc (flE axn) axn))) (sqS (ifS (orB (tb (bn neW (un (fldW 0 2) (vr 7)) (vr 4))) (orB (tb (bn neW (un (fldW 0 0) (vr 7)) (vr 2))) (orB (tb (bn neW (un (fldW 0 1) (vr 7)) (vr 3))) (tb (bn neW (un (fldW 0 3) (vr 7)) (vr 5)))))) (rtS (kk (.bl false))) passS) (sqS (ifS (orB (tb (bn nibW (un (fldW 0 4) (vr 7)) (kk (.bl true)))) (notB (tb (bn (eqO 0 d_Picture_eq) (vr 7) (mkE 0 5 d_Picture_init (axc (vr 2) (axc (vr 3) (axc (vr 4) (axc (vr 5) (axc (kk (.bl true)) axn)))))))))) (rtS (kk (.bl false))) passS) (sqS (setS 8 (lcE [16] (sqI (vr 4)) (ct1 16) yesB (clE listLF (axc (vr 16) axn)))) (sqS (setS 9 (kk (.int 0))) (sqS (forS (rg1 (axc (bn modW (clE d__law_cell (axc (vr 0) (axc (kk (.int 2)) axn))) (kk (.int 4))) axn)) (gNm 10) b_law_0) (sqS (setS 14 (mkE 0 5 d_Picture_init (axc (vr 2) (axc (vr 3) (axc (vr 8) (axc (vr 5) (axc (kk (.bl true)) axn))))))) (sqS (setS 15 (clE d_difference (axc (vr 7) (axc (vr 14) axn)))) (sqS (ifS (orB (notB (trB (clE d__law_integer (axc (vr 15) axn)))) (orB (tb (bn neW (vr 15) (vr 9))) (tb (bn neW (bn (eqO 0 d_Picture_eq) (vr 7) (vr 14)) (bn eqW (vr 9) (kk (.int 0))))))) (rtS (kk (.bl false))) passS) (sqS (ifS (orB (tb (bn (eqO 0 d_Picture_eq) (vr 7) (mkE 0 5 d_Picture_init (axc (vr 2) (axc (vr 3) (axc (vr 4) (axc (tupE (axc (bn ixW (vr 5) (kk (.int 0))) (axc (bn addW (bn ixW (vr 5) (kk (.int 1))) (kk (.int 1))) axn))) (axc (kk (.bl true)) axn)))))))) (tb (bn (eqO 0 d_Picture_eq) (vr 7) (mkE 0 5 d_Picture_init (axc (vr 2) (axc (vr 3) (axc (vr 4) (axc (vr 5) (axc (kk (.bl false)) axn))))))))) (rtS (kk (.bl false))) passS) (sqS (ifS (orB (tb (bn (eqO 0 d_Picture_eq) (vr 7) (mkE 0 5 d_Picture_init (axc (bn addW (vr 2) (kk (.int 1))) (axc (vr 3) (axc (vr 4) (axc (vr 5) (axc (kk (.bl true)) axn)))))))) (tb (bn (eqO 0 d_Picture_eq) (vr 7) (mkE 0 5 d_Picture_init (axc (vr 2) (axc (bn addW (vr 3) (kk (.int 1))) (axc (vr 4) (axc (vr 5) (axc (kk (.bl true)) axn))))))))) (rtS (kk (.bl false))) passS) (rtS (andE (un notW (bn (eqO 0 d_Picture_eq) (vr 7) (vr 4))) (andE (un notW (bn (eqO 0 d_Picture_eq) (vr 7) (vr 2))) (bn eqW (clE d_difference (axc (vr 7) (axc (vr 7) axn))) (kk (.int 0)))))))))))))))))))))))))
abbrev d_law : List W → Sto → R W := r_law
theorem rowsAre_mem {s : Sto} : ∀ {ws : List W} {G : Grid}, rowsAre s ws G → ws.length = G.length ∧ ∀ (i : Nat) (w : W), ws[i]? = some w → ∃ r : List Cell, G[i]? = some r ∧ lstOf s w = some (r.map cellW)
  | [], [], _ => ⟨rfl, fun i w h => by simp at h⟩
  | w :: ws, r :: G, h => by
    obtain ⟨h1, h2⟩ := rowsAre_mem h.2
    refine ⟨by simp [h1], fun i v hv => ?_⟩
    cases i with
    | zero => simp at hv; subst hv; exact ⟨r, rfl, h.1⟩
    | succ i => simpa using h2 i v (by simpa using hv)
  | [], _ :: _, h => h.elim
  | _ :: _, [], h => h.elim
def rowOf (s : Sto) (w : W) : W := .fl ((lstOf s w).getD [])
theorem rowOf_rows {s : Sto} : ∀ {ws : List W} {G : Grid}, rowsAre s ws G → ws.map (rowOf s) = G.map rowW
  | [], [], _ => rfl
  | w :: ws, r :: G, h => by
    simp only [List.map_cons, rowOf, h.1, Option.getD_some, rowW]
    congr 1
    exact rowOf_rows h.2
  | [], _ :: _, h => h.elim
  | _ :: _, [], h => h.elim
theorem rowsAre_is {s : Sto} : ∀ {ws : List W} {G : Grid}, rowsAre s ws G → ∀ w ∈ ws, ∃ r : List Cell, lstOf s w = some (r.map cellW)
  | [], [], _, w, h => by cases h
  | w :: ws, r :: G, h, v, hv => by
    rcases List.mem_cons.mp hv with e | hv
    · rw [e]; exact ⟨r, h.1⟩
    · exact rowsAre_is h.2 v hv
  | [], _ :: _, h, _, _ => h.elim
  | _ :: _, [], h, _, _ => h.elim
theorem seqOf_lst {s : Sto} {w : W} {xs : List W} (h : lstOf s w = some xs) : seqOf s w = some xs := by
  cases w <;> first | exact h | (simp [lstOf] at h)
theorem init_den {s : Sto} {l : Nat} {x : W} {G : Grid} {w h r c : Int} {v : Bool} {fs : List (Option W)} (hg : gridIs s x G) (hs : G.length < 1000000) (hl : s[l]? = some (.ins 0 [none, none, none, none, none])) :
    r_Picture_init [.loc l, .int w, .int h, x, curW r c, .bl v] s = .ok .non (s.set l (picO w h G r c v)) := by
  obtain ⟨ws, h1, h2⟩ := hg
  have hx : ∀ o, (s.set l o)[l]? = some o := fun o => by
    have := (List.getElem?_eq_some_iff.mp hl).1
    simp [this]
  have hne : ∀ o, lstOf (s.set l o) x = some ws := fun o => by
    cases x with
    | fl us => exact h1
    | loc k =>
      have : k ≠ l := by
        intro e
        subst e
        simp [lstOf, hl] at h1
      simp only [lstOf] at h1 ⊢
      rw [List.getElem?_set_ne (Ne.symm this)]
      exact h1
    | _ => simp [lstOf] at h1
  have hr : ∀ o, rowsAre (s.set l o) ws G := fun o => by
    have key : ∀ (ws : List W) (G : Grid), rowsAre s ws G → rowsAre (s.set l o) ws G := by
      intro ws
      induction ws with
      | nil => intro G h; cases G with
        | nil => exact h
        | cons _ _ => exact h.elim
      | cons w ws ih => intro G h; cases G with
        | nil => exact h.elim
        | cons r G =>
          refine ⟨?_, ih G h.2⟩
          have h1 := h.1
          cases w with
          | fl us => exact h1
          | loc k =>
            have : k ≠ l := by
              intro e
              subst e
              simp [lstOf, hl] at h1
            simp only [lstOf] at h1 ⊢
            rw [List.getElem?_set_ne (Ne.symm this)]
            exact h1
          | _ => simp [lstOf] at h1
    exact key ws G h2
  have lc : ∀ (o : O) (a b cc d e f : Option W), (lcE [6] (sqI (vr 3)) (ct1 6) yesB (clE listF (axc (vr 6) axn))) [a, b, cc, some x, d, e, f] (s.set l o) = .ok (gridW G) (s.set l o) := by
    intro o a b cc d e f
    have hm : (vr 3) [a, b, cc, some x, d, e, f] (s.set l o) = .ok x (s.set l o) := rfl
    have hl := (rowsAre_mem h2).1
    have q := lcS_pure (vs := [6]) (g := ct1 6) (e := clE listF (axc (vr 6) axn)) (f := rowOf (s.set l o)) hm (hne o) (by omega) (fun y hy => by
      obtain ⟨r, hr⟩ := rowsAre_is (hr o) y hy
      refine ⟨[a, b, cc, some x, d, e, some y], rfl, ?_⟩
      simp [clE, axc, axn, vr, listF, seqOf_lst hr, rowOf, hr])
    unfold lcE
    rw [q, R.bind_ok, rowOf_rows (hr o)]
    rfl
  unfold r_Picture_init
  have e5 : ∀ (o : O) (y : O), (s.set l o).set l y = s.set l y := fun o y => by simp
  simp only [bodyD, pad, sqS, setFS, vr, kk, List.map, List.length, List.replicate, List.cons_append, List.nil_append, Nat.reduceAdd, Nat.reduceSub, List.getElem?_cons_succ, List.getElem?_cons_zero, R.toS_ok, hl, hx, SR.go_nx, if_true, e5, List.set_cons_zero, List.set_cons_succ]
  rw [lc]
  simp [hx, fin, picO, sqS, setFS, vr]
theorem eq_den {s : Sto} {a b : Nat} {w h r c w2 h2 r2 c2 : Int} {G G2 : Grid} {v v2 : Bool} (ha : s[a]? = some (picO w h G r c v)) (hb : s[b]? = some (picO w2 h2 G2 r2 c2 v2)) :
    r_Picture_eq [.loc a, .loc b] s = .ok (.bl (decide (w = w2 ∧ h = h2 ∧ G = G2 ∧ (r = r2 ∧ c = c2) ∧ v = v2))) s := by
  unfold picO at ha hb
  have e1 := eq_grid (s := s) (gridIs_fl s G) (gridIs_fl s G2)
  have e2 := eq_cur r c r2 c2 s
  unfold r_Picture_eq
  by_cases q1 : w = w2
  · subst q1
    by_cases q2 : h = h2
    · subst q2
      by_cases q3 : G = G2
      · subst q3
        by_cases q4 : r = r2 ∧ c = c2
        · obtain ⟨q4, q5⟩ := q4
          subst q4
          subst q5
          simp [bodyD, pad, sqS, ifS, orB, andB, notB, tb, bn, un, addW, mulW, negW, notW, mulOk, int0, intW, vr, kk, rtS, rnS, exS, orE, andE, chn, ifE, trB, truW, lstOf, seqOf, lstK, passS, noS, setS, asgS, parS, axc, axn, flE, lsE, tupE, clE, mthE, mkE, isIns, fldW, setFS, augFS, setFd, gFd, gNm, gTp, gsC, gsN, augS, lenF, absF, intF, allF, anyF, sumF, maxF, minF, listF, listLF, tupF, isiW, tyOf, Ty.le, ixW, lmE, appF, extF, popF, flatW, veqW, inW, ninW, forS, sqI, lpS, forL, rg1, rg2, slE, slF, slLF, oxn, oxs, inT, getT, isnW, nonW, isbW, nibW, idxF, firstI, gSb, setI, ixN, bkS, ctS, whS, eq_int, ne_int, eq_bl, ne_bl, atI_l0, atI_l1, atI_l2, atI_l3, isiO, isIns, ha, hb, e1, e2]
          rfl
        · simp [bodyD, pad, sqS, ifS, orB, andB, notB, tb, bn, un, addW, mulW, negW, notW, mulOk, int0, intW, vr, kk, rtS, rnS, exS, orE, andE, chn, ifE, trB, truW, lstOf, seqOf, lstK, passS, noS, setS, asgS, parS, axc, axn, flE, lsE, tupE, clE, mthE, mkE, isIns, fldW, setFS, augFS, setFd, gFd, gNm, gTp, gsC, gsN, augS, lenF, absF, intF, allF, anyF, sumF, maxF, minF, listF, listLF, tupF, isiW, tyOf, Ty.le, ixW, lmE, appF, extF, popF, flatW, veqW, inW, ninW, forS, sqI, lpS, forL, rg1, rg2, slE, slF, slLF, oxn, oxs, inT, getT, isnW, nonW, isbW, nibW, idxF, firstI, gSb, setI, ixN, bkS, ctS, whS, eq_int, ne_int, eq_bl, ne_bl, atI_l0, atI_l1, atI_l2, atI_l3, isiO, isIns, ha, hb, e1, e2, q4]
      · simp [bodyD, pad, sqS, ifS, orB, andB, notB, tb, bn, un, addW, mulW, negW, notW, mulOk, int0, intW, vr, kk, rtS, rnS, exS, orE, andE, chn, ifE, trB, truW, lstOf, seqOf, lstK, passS, noS, setS, asgS, parS, axc, axn, flE, lsE, tupE, clE, mthE, mkE, isIns, fldW, setFS, augFS, setFd, gFd, gNm, gTp, gsC, gsN, augS, lenF, absF, intF, allF, anyF, sumF, maxF, minF, listF, listLF, tupF, isiW, tyOf, Ty.le, ixW, lmE, appF, extF, popF, flatW, veqW, inW, ninW, forS, sqI, lpS, forL, rg1, rg2, slE, slF, slLF, oxn, oxs, inT, getT, isnW, nonW, isbW, nibW, idxF, firstI, gSb, setI, ixN, bkS, ctS, whS, eq_int, ne_int, eq_bl, ne_bl, atI_l0, atI_l1, atI_l2, atI_l3, isiO, isIns, ha, hb, e1, e2, q3]
    · simp [bodyD, pad, sqS, ifS, orB, andB, notB, tb, bn, un, addW, mulW, negW, notW, mulOk, int0, intW, vr, kk, rtS, rnS, exS, orE, andE, chn, ifE, trB, truW, lstOf, seqOf, lstK, passS, noS, setS, asgS, parS, axc, axn, flE, lsE, tupE, clE, mthE, mkE, isIns, fldW, setFS, augFS, setFd, gFd, gNm, gTp, gsC, gsN, augS, lenF, absF, intF, allF, anyF, sumF, maxF, minF, listF, listLF, tupF, isiW, tyOf, Ty.le, ixW, lmE, appF, extF, popF, flatW, veqW, inW, ninW, forS, sqI, lpS, forL, rg1, rg2, slE, slF, slLF, oxn, oxs, inT, getT, isnW, nonW, isbW, nibW, idxF, firstI, gSb, setI, ixN, bkS, ctS, whS, eq_int, ne_int, eq_bl, ne_bl, atI_l0, atI_l1, atI_l2, atI_l3, isiO, isIns, ha, hb, e1, e2, q2]
  · simp [bodyD, pad, sqS, ifS, orB, andB, notB, tb, bn, un, addW, mulW, negW, notW, mulOk, int0, intW, vr, kk, rtS, rnS, exS, orE, andE, chn, ifE, trB, truW, lstOf, seqOf, lstK, passS, noS, setS, asgS, parS, axc, axn, flE, lsE, tupE, clE, mthE, mkE, isIns, fldW, setFS, augFS, setFd, gFd, gNm, gTp, gsC, gsN, augS, lenF, absF, intF, allF, anyF, sumF, maxF, minF, listF, listLF, tupF, isiW, tyOf, Ty.le, ixW, lmE, appF, extF, popF, flatW, veqW, inW, ninW, forS, sqI, lpS, forL, rg1, rg2, slE, slF, slLF, oxn, oxs, inT, getT, isnW, nonW, isbW, nibW, idxF, firstI, gSb, setI, ixN, bkS, ctS, whS, eq_int, ne_int, eq_bl, ne_bl, atI_l0, atI_l1, atI_l2, atI_l3, isiO, isIns, ha, hb, e1, e2, q1]
theorem eq_other {s : Sto} {a : Nat} {y : W} (h1 : isIns 0 y s = false) (h2 : (tyOf s y).isSome = true) : r_Picture_eq [.loc a, y] s = .ok (.bl false) s := by
  obtain ⟨t, ht⟩ := Option.isSome_iff_exists.mp h2
  unfold r_Picture_eq
  simp [bodyD, pad, sqS, ifS, notB, trB, un, isiO, h1, ht, vr, truW, rtS, kk, fin]
def diffR : List Cell → List Cell → Nat
  | x :: xs, y :: ys => (if x = y then 0 else 1) + diffR xs ys
  | _, _ => 0
def diffG : Grid → Grid → Nat
  | x :: xs, y :: ys => diffR x y + diffG xs ys
  | _, _ => 0
theorem diff_row (p q : W) (s : Sto) : ∀ (xs ys : List Cell) (n : Nat) (o t a b : Option W), ∃ a' b', forL (gTp 2 (gsC (gNm 5) (gsC (gNm 6) gsN))) b_difference_0 (zipW (xs.map cellW) (ys.map cellW)) [some p, some q, some (.int n), o, t, a, b] s = .nx [some p, some q, some (.int ((n + diffR xs ys : Nat) : Int)), o, t, a', b'] s
  | [], ys, n, o, t, a, b => ⟨a, b, by simp [zipW, forL, diffR]⟩
  | x :: xs, [], n, o, t, a, b => ⟨a, b, by simp [zipW, forL, diffR]⟩
  | x :: xs, y :: ys, n, o, t, a, b => by
    have hb : b_difference_0 [some p, some q, some (.int n), o, t, some (cellW x), some (cellW y)] s = .nx [some p, some q, some (.int ((n + (if x = y then 0 else 1) : Nat) : Int)), o, t, some (cellW x), some (cellW y)] s := by
      have hne := ne_cell x y s
      unfold b_difference_0
      by_cases h : x = y
      · subst h
        simp [bodyD, pad, sqS, ifS, orB, andB, notB, tb, bn, un, addW, mulW, negW, notW, mulOk, int0, intW, vr, kk, rtS, rnS, exS, orE, andE, chn, ifE, trB, truW, lstOf, seqOf, lstK, passS, noS, setS, asgS, parS, axc, axn, flE, lsE, tupE, clE, mthE, mkE, isIns, fldW, setFS, augFS, setFd, gFd, gNm, gTp, gsC, gsN, augS, lenF, absF, intF, allF, anyF, sumF, maxF, minF, listF, listLF, tupF, isiW, tyOf, Ty.le, ixW, lmE, appF, extF, popF, flatW, veqW, inW, ninW, forS, sqI, lpS, forL, rg1, rg2, slE, slF, slLF, oxn, oxs, inT, getT, isnW, nonW, isbW, nibW, idxF, firstI, gSb, setI, ixN, bkS, ctS, whS, eq_int, ne_int, eq_bl, ne_bl, atI_l0, atI_l1, atI_l2, atI_l3, hne]
      · simp [bodyD, pad, sqS, ifS, orB, andB, notB, tb, bn, un, addW, mulW, negW, notW, mulOk, int0, intW, vr, kk, rtS, rnS, exS, orE, andE, chn, ifE, trB, truW, lstOf, seqOf, lstK, passS, noS, setS, asgS, parS, axc, axn, flE, lsE, tupE, clE, mthE, mkE, isIns, fldW, setFS, augFS, setFd, gFd, gNm, gTp, gsC, gsN, augS, lenF, absF, intF, allF, anyF, sumF, maxF, minF, listF, listLF, tupF, isiW, tyOf, Ty.le, ixW, lmE, appF, extF, popF, flatW, veqW, inW, ninW, forS, sqI, lpS, forL, rg1, rg2, slE, slF, slLF, oxn, oxs, inT, getT, isnW, nonW, isbW, nibW, idxF, firstI, gSb, setI, ixN, bkS, ctS, whS, eq_int, ne_int, eq_bl, ne_bl, atI_l0, atI_l1, atI_l2, atI_l3, hne, h]
    obtain ⟨a', b', h⟩ := diff_row p q s xs ys (n + (if x = y then 0 else 1)) o t (some (cellW x)) (some (cellW y))
    refine ⟨a', b', ?_⟩
    show forL _ _ (W.tup [cellW x, cellW y] :: zipW (xs.map cellW) (ys.map cellW)) _ _ = _
    unfold forL
    simp only [gTp, gsC, gsN, gNm, List.length_cons, List.length_nil, Nat.reduceAdd, if_true, R.bind_ok, R.toS_ok, List.set_cons_succ, List.set_cons_zero, lpS, hb, SR.lp_nx]
    rw [h]
    simp only [diffR, Nat.add_assoc]
theorem diff_rows (p q : W) (s : Sto) : ∀ (xs ys : Grid) (n : Nat) (o t a b : Option W), ∃ o' t' a' b', forL (gTp 2 (gsC (gNm 3) (gsC (gNm 4) gsN))) b_difference_1 (zipW (xs.map rowW) (ys.map rowW)) [some p, some q, some (.int n), o, t, a, b] s = .nx [some p, some q, some (.int ((n + diffG xs ys : Nat) : Int)), o', t', a', b'] s
  | [], ys, n, o, t, a, b => ⟨o, t, a, b, by simp [zipW, forL, diffG]⟩
  | x :: xs, [], n, o, t, a, b => ⟨o, t, a, b, by simp [zipW, forL, diffG]⟩
  | x :: xs, y :: ys, n, o, t, a, b => by
    obtain ⟨a1, b1, h1⟩ := diff_row p q s x y n (some (rowW x)) (some (rowW y)) a b
    obtain ⟨o', t', a', b', h⟩ := diff_rows p q s xs ys (n + diffR x y) (some (rowW x)) (some (rowW y)) a1 b1
    refine ⟨o', t', a', b', ?_⟩
    have hz : (zpI (axc (vr 3) (axc (vr 4) axn))) [some p, some q, some (.int n), some (rowW x), some (rowW y), a, b] s = .ok (.st (zipW (x.map cellW) (y.map cellW))) s := by
      simp [zpI, axc, axn, vr, rowW, zpF, lstK, lstOf, valW]
    show forL _ _ (W.tup [rowW x, rowW y] :: zipW (xs.map rowW) (ys.map rowW)) _ _ = _
    unfold forL
    simp only [gTp, gsC, gsN, gNm, List.length_cons, List.length_nil, Nat.reduceAdd, if_true, R.bind_ok, R.toS_ok, List.set_cons_succ, List.set_cons_zero, lpS]
    unfold b_difference_1 forS
    rw [hz, R.toS_ok]
    simp only
    rw [h1]
    simp only [SR.lp_nx]
    unfold b_difference_1 forS at h
    rw [h]
    simp only [diffG, Nat.add_assoc]
theorem diff_den {s : Sto} {a b : Nat} {w h r c w2 h2 r2 c2 : Int} {G G2 : Grid} {v v2 : Bool} (ha : s[a]? = some (picO w h G r c v)) (hb : s[b]? = some (picO w2 h2 G2 r2 c2 v2)) : r_difference [.loc a, .loc b] s = .ok (.int (diffG G G2 : Nat)) s := by
  unfold picO at ha hb
  obtain ⟨o', t', a', b', h⟩ := diff_rows (.loc a) (.loc b) s G G2 0 none none none none
  have hz : ∀ n : Option W, (zpI (axc (un (fldW 0 2) (vr 0)) (axc (un (fldW 0 2) (vr 1)) axn))) [some (.loc a), some (.loc b), n, none, none, none, none] s = .ok (.st (zipW (G.map rowW) (G2.map rowW))) s := fun n => by
    simp [zpI, axc, axn, vr, un, fldW, ha, hb, zpF, lstK, lstOf, valW, gridW]
  unfold r_difference
  simp only [bodyD, pad, sqS, setS, kk, List.map, List.length, List.replicate, List.cons_append, List.nil_append, Nat.reduceAdd, Nat.reduceSub, R.toS_ok, SR.go_nx, List.set_cons_succ, List.set_cons_zero, forS, hz]
  rw [show ((0 : Nat) : Int) = 0 from rfl] at h
  rw [h]
  simp [rtS, vr, fin]
/-! differences -/
theorem diffR_set : ∀ (xs ys : List Cell) (c : Nat) (x y z : Cell), xs[c]? = some x → ys[c]? = some y → z ≠ x → diffR xs (ys.set c z) = diffR xs ys + (if y = x then 1 else 0)
  | x :: xs, y :: ys, 0, x', y', z, h1, h2, h3 => by
    simp at h1 h2
    subst h1
    subst h2
    simp only [List.set_cons_zero, diffR]
    rw [if_neg (Ne.symm h3)]
    by_cases e : y = x
    · rw [if_pos e.symm, if_pos e]; omega
    · rw [if_neg (Ne.symm e), if_neg e]
      omega
  | x :: xs, y :: ys, c + 1, x', y', z, h1, h2, h3 => by
    simp only [List.getElem?_cons_succ] at h1 h2
    simp only [List.set_cons_succ, diffR, diffR_set xs ys c x' y' z h1 h2 h3, Nat.add_assoc]
  | [], _, _, _, _, _, h1, _, _ => by simp at h1
  | _ :: _, [], _, _, _, _, _, h2, _ => by simp at h2
theorem diffG_set : ∀ (xs ys : Grid) (r : Nat) (a b b' : List Cell) (n : Nat), xs[r]? = some a → ys[r]? = some b → diffR a b' = diffR a b + n → diffG xs (ys.set r b') = diffG xs ys + n
  | x :: xs, y :: ys, 0, a, b, b', n, h1, h2, h3 => by
    simp at h1 h2
    subst h1
    subst h2
    simp only [List.set_cons_zero, diffG, h3]
    omega
  | x :: xs, y :: ys, r + 1, a, b, b', n, h1, h2, h3 => by
    simp only [List.getElem?_cons_succ] at h1 h2
    simp only [List.set_cons_succ, diffG, diffG_set xs ys r a b b' n h1 h2 h3, Nat.add_assoc]
  | [], _, _, _, _, _, _, h1, _, _ => by simp at h1
  | _ :: _, [], _, _, _, _, _, _, h2, _ => by simp at h2
theorem diffR_self : ∀ xs : List Cell, diffR xs xs = 0
  | [] => rfl
  | x :: xs => by simp [diffR, diffR_self xs]
theorem diffG_self : ∀ xs : Grid, diffG xs xs = 0
  | [] => rfl
  | x :: xs => by simp [diffG, diffR_self, diffG_self xs]
theorem diffR_zero : ∀ xs ys : List Cell, xs.length = ys.length → diffR xs ys = 0 → xs = ys
  | [], [], _, _ => rfl
  | x :: xs, y :: ys, h, e => by
    simp only [diffR] at e
    by_cases q : x = y
    · rw [if_pos q] at e
      rw [q, diffR_zero xs ys (by simpa using h) (by omega)]
    · rw [if_neg q] at e
      omega
  | [], _ :: _, h, _ => by simp at h
  | _ :: _, [], h, _ => by simp at h
theorem diffG_zero : ∀ xs ys : Grid, xs.map List.length = ys.map List.length → diffG xs ys = 0 → xs = ys
  | [], [], _, _ => rfl
  | x :: xs, y :: ys, h, e => by
    simp only [diffG] at e
    simp only [List.map_cons, List.cons.injEq] at h
    rw [diffR_zero x y h.1 (by omega), diffG_zero xs ys h.2 (by omega)]
  | [], _ :: _, h, _ => by simp at h
  | _ :: _, [], h, _ => by simp at h
def othW (base h : Nat) : W := .fl ((List.range h).map fun i => W.loc (base + i))
structure Oth (s : Sto) (base h w : Nat) (O : Grid) : Prop where
  len : O.length = h
  row : ∀ r ∈ O, r.length = w
  at_ : ∀ (i : Nat) (r : List Cell), O[i]? = some r → s[base + i]? = some (.lst (r.map cellW))
theorem chg_body (ns : List Int) (R O : Grid) (w h base n k : Nat) (s : Sto) (a1 a5 a6 a7 y1 y2 y3 y4 y5 y6 : Option W) (h0 : 0 < h) (w0 : 0 < w) (hb : h < 1000) (wb : w < 1000) (hR : R.length = h) (hRr : ∀ r ∈ R, r.length = w) (hp : ∀ r ∈ R, ∀ c ∈ r, c.p < 200) (hO : Oth s base h w O) :
    ∃ O' d s' y1' y2' y3', b_law_0 [some (.kl (ns.map W.int)), a1, some (.int w), some (.int h), some (gridW R), a5, a6, a7, some (othW base h), some (.int n), some (.int k), y1, y2, y3, y4, y5, y6] s =
      .nx [some (.kl (ns.map W.int)), a1, some (.int w), some (.int h), some (gridW R), a5, a6, a7, some (othW base h), some (.int ((n + d : Nat) : Int)), some (.int k), y1', y2', y3', y4, y5, y6] s' ∧
      Oth s' base h w O' ∧ diffG R O' = diffG R O + d ∧ ∀ i, i < base → s'[i]? = s[i]? := by
  have hc : r__law_cell [.kl (ns.map W.int), .int (3 + (k : Int))] s = .ok (.int (ns.getD (3 + k) 0)) s := by
    have := cell_den ns (3 + k) s
    rw [show ((3 + k : Nat) : Int) = 3 + (k : Int) by omega] at this
    exact this
  generalize ns.getD (3 + k) 0 = x at hc
  have hr1 : 0 ≤ x % (h : Int) := Int.emod_nonneg _ (by omega)
  have hr2 : x % (h : Int) < h := Int.emod_lt_of_pos _ (by omega)
  have hc1 : 0 ≤ x / (h : Int) % (w : Int) := Int.emod_nonneg _ (by omega)
  have hc2 : x / (h : Int) % (w : Int) < w := Int.emod_lt_of_pos _ (by omega)
  obtain ⟨rn, er⟩ := Int.eq_ofNat_of_zero_le hr1
  obtain ⟨cn, ec⟩ := Int.eq_ofNat_of_zero_le hc1
  have hrn : rn < h := by omega
  have hcn : cn < w := by omega
  have hOl : rn < O.length := by rw [hO.len]; exact hrn
  have hRl : rn < R.length := by rw [hR]; exact hrn
  have e1 : O[rn]? = some O[rn] := by simp [hOl]
  have e2 : R[rn]? = some R[rn] := by simp [hRl]
  have l1 := hO.row _ (List.getElem_mem hOl)
  have l2 := hRr _ (List.getElem_mem hRl)
  have p2 := hp _ (List.getElem_mem hRl)
  generalize O[rn] = yr at e1 l1
  generalize R[rn] = xr at e2 l2 p2
  have c1 : cn < yr.length := by omega
  have c2 : cn < xr.length := by omega
  have e3 : yr[cn]? = some yr[cn] := by simp [c1]
  have e4 : xr[cn]? = some xr[cn] := by simp [c2]
  have p3 := p2 _ (List.getElem_mem c2)
  generalize yr[cn] = yc at e3
  generalize xr[cn] = xc at e4 p3
  have hs := hO.at_ rn yr e1
  have i1 : atI ((List.range h).map fun i => W.loc (base + i)) (rn : Int) = some (.loc (base + rn)) := atI_nat (by simp [hrn])
  have i2 : atI (yr.map cellW) (cn : Int) = some (cellW yc) := atI_nat (by simp [e3])
  have i3 : atI (R.map rowW) (rn : Int) = some (rowW xr) := atI_nat (by simp [e2])
  have i4 : atI (xr.map cellW) (cn : Int) = some (cellW xc) := atI_nat (by simp [e4])
  have heq := eq_cell yc xc s
  have hbI : (h : Int) < 1073741824 := by omega
  have hz : W.tup [.int (200 + (k : Int)), .tup [.int (-1), .int (-1), .int 0]] = cellW ⟨200 + k, -1, -1, 0⟩ := rfl
  have key : b_law_0 [some (.kl (ns.map W.int)), a1, some (.int w), some (.int h), some (gridW R), a5, a6, a7, some (othW base h), some (.int n), some (.int k), y1, y2, y3, y4, y5, y6] s =
      .nx [some (.kl (ns.map W.int)), a1, some (.int w), some (.int h), some (gridW R), a5, a6, a7, some (othW base h), some (.int ((n + (if yc = xc then 1 else 0) : Nat) : Int)), some (.int k), some (.int x), some (.int rn), some (.int cn), y4, y5, y6]
        (s.set (base + rn) (.lst ((yr.map cellW).set cn (cellW ⟨200 + k, -1, -1, 0⟩)))) := by
    unfold b_law_0 othW gridW
    by_cases q : yc = xc
    · subst q
      simp [bodyD, pad, sqS, ifS, orB, andB, notB, tb, bn, un, addW, mulW, negW, notW, mulOk, int0, intW, vr, kk, rtS, rnS, exS, orE, andE, chn, ifE, trB, truW, lstOf, seqOf, lstK, passS, noS, setS, asgS, parS, axc, axn, flE, lsE, tupE, clE, mthE, mkE, isIns, fldW, setFS, augFS, setFd, gFd, gNm, gTp, gsC, gsN, augS, lenF, absF, intF, allF, anyF, sumF, maxF, minF, listF, listLF, tupF, isiW, tyOf, Ty.le, ixW, lmE, appF, extF, popF, flatW, veqW, inW, ninW, forS, sqI, lpS, forL, rg1, rg2, slE, slF, slLF, oxn, oxs, inT, getT, isnW, nonW, isbW, nibW, idxF, firstI, gSb, setI, ixN, bkS, ctS, whS, eq_int, ne_int, eq_bl, ne_bl, atI_l0, atI_l1, atI_l2, atI_l3, hc, h0, w0, hbI, er, ec, i1, i2, i3, i4, hs, heq, rowW, c1, hz]
    · simp [bodyD, pad, sqS, ifS, orB, andB, notB, tb, bn, un, addW, mulW, negW, notW, mulOk, int0, intW, vr, kk, rtS, rnS, exS, orE, andE, chn, ifE, trB, truW, lstOf, seqOf, lstK, passS, noS, setS, asgS, parS, axc, axn, flE, lsE, tupE, clE, mthE, mkE, isIns, fldW, setFS, augFS, setFd, gFd, gNm, gTp, gsC, gsN, augS, lenF, absF, intF, allF, anyF, sumF, maxF, minF, listF, listLF, tupF, isiW, tyOf, Ty.le, ixW, lmE, appF, extF, popF, flatW, veqW, inW, ninW, forS, sqI, lpS, forL, rg1, rg2, slE, slF, slLF, oxn, oxs, inT, getT, isnW, nonW, isbW, nibW, idxF, firstI, gSb, setI, ixN, bkS, ctS, whS, eq_int, ne_int, eq_bl, ne_bl, atI_l0, atI_l1, atI_l2, atI_l3, hc, h0, w0, hbI, er, ec, i1, i2, i3, i4, hs, heq, rowW, c1, q, hz]
  refine ⟨O.set rn (yr.set cn ⟨200 + k, -1, -1, 0⟩), _, _, _, _, _, key, ⟨by simp [hO.len], fun r hm => ?_, fun i r hi => ?_⟩, ?_, fun i hi => ?_⟩
  · rcases List.mem_or_eq_of_mem_set hm with hm | hm
    · exact hO.row r hm
    · rw [hm]; simp [l1]
  · by_cases q : rn = i
    · subst q
      rw [List.getElem?_set_self hOl] at hi
      cases hi
      rw [List.getElem?_set_self (List.getElem?_eq_some_iff.mp hs).1, List.map_set]
    · rw [List.getElem?_set_ne q] at hi
      rw [List.getElem?_set_ne (by omega)]
      exact hO.at_ i r hi
  · exact diffG_set R O rn xr yr _ _ e2 e1 (diffR_set xr yr cn xc yc _ e4 e3 (fun q => by rw [← q] at p3; simp only at p3; omega))
  · rw [List.getElem?_set_ne (by omega)]
theorem chg_loop (ns : List Int) (R : Grid) (w h base : Nat) (a1 a5 a6 a7 y4 y5 y6 : Option W) (h0 : 0 < h) (w0 : 0 < w) (hb : h < 1000) (wb : w < 1000) (hR : R.length = h) (hRr : ∀ r ∈ R, r.length = w) (hp : ∀ r ∈ R, ∀ c ∈ r, c.p < 200) :
    ∀ (m k n : Nat) (O : Grid) (s : Sto) (y0 y1 y2 y3 : Option W), Oth s base h w O → diffG R O = n →
    ∃ O' s' y0' y1' y2' y3', forL (gNm 10) b_law_0 (rngL (k : Int) m) [some (.kl (ns.map W.int)), a1, some (.int w), some (.int h), some (gridW R), a5, a6, a7, some (othW base h), some (.int n), y0, y1, y2, y3, y4, y5, y6] s =
      .nx [some (.kl (ns.map W.int)), a1, some (.int w), some (.int h), some (gridW R), a5, a6, a7, some (othW base h), some (.int (diffG R O' : Nat)), y0', y1', y2', y3', y4, y5, y6] s' ∧ Oth s' base h w O' ∧ ∀ i, i < base → s'[i]? = s[i]? := by
  intro m
  induction m with
  | zero => intro k n O s y0 y1 y2 y3 hO hd; exact ⟨O, s, y0, y1, y2, y3, by rw [hd]; simp [rngL_zero, forL], hO, fun _ _ => rfl⟩
  | succ m ih =>
    intro k n O s y0 y1 y2 y3 hO hd
    obtain ⟨O1, d, s1, z1, z2, z3, b1, b2, b3, b4⟩ := chg_body ns R O w h base n k s a1 a5 a6 a7 y1 y2 y3 y4 y5 y6 h0 w0 hb wb hR hRr hp hO
    obtain ⟨O', s', t0, t1, t2, t3, c1, c2, c3⟩ := ih (k + 1) (n + d) O1 s1 (some (.int k)) z1 z2 z3 b2 (by rw [b3, hd])
    refine ⟨O', s', t0, t1, t2, t3, ?_, c2, fun i hi => by rw [c3 i hi, b4 i hi]⟩
    rw [rngL_succ]
    unfold forL
    simp only [gNm, _root_.ML.R.toS_ok, lpS, List.set_cons_succ, List.set_cons_zero, b1, SR.lp_nx]
    rw [show ((k : Int) + 1) = ((k + 1 : Nat) : Int) by omega]
    exact c1
theorem copy_rows {env : En} (he : env.length = 17) : ∀ (G : Grid) (s : Sto), lcL (ct1 16) yesB (clE listLF (axc (vr 16) axn)) env (G.map rowW) s = .ok ((List.range G.length).map fun i => W.loc (s.length + i)) (s ++ G.map fun r => O.lst (r.map cellW))
  | [], s => by simp [lcL]
  | r :: G, s => by
    have h3 : ∀ e, yesB e s = .ok true s := fun e => rfl
    have h4 : (clE listLF (axc (vr 16) axn)) (env.set 16 (some (rowW r))) s = .ok (.loc s.length) (s ++ [.lst (r.map cellW)]) := by
      have : (env.set 16 (some (rowW r)))[16]? = some (some (rowW r)) := by simp [he]
      have hseq : seqOf s (rowW r) = some (r.map cellW) := rfl
      simp [clE, axc, axn, vr, this, listLF, hseq]
    have h5 : ct1 16 (rowW r) env = some (env.set 16 (some (rowW r))) := by
      unfold ct1
      first | rfl | simp [he]
    simp only [List.map_cons, lcL, h5, h3, R.bind_ok, if_true, h4]
    rw [copy_rows he G]
    simp only [R.bind_ok, List.length_append, List.length_cons, List.length_nil]
    congr 1
    · rw [List.range_succ_eq_map]
      simp [List.map_map, Function.comp, Nat.add_assoc, Nat.add_comm 1]
    · simp
theorem lstOf_app {s t : Sto} {w : W} {xs : List W} (h : lstOf s w = some xs) : lstOf (s ++ t) w = some xs := by
  cases w with
  | fl ws => exact h
  | loc l =>
    simp only [lstOf] at h ⊢
    cases e : s[l]? with
    | none => rw [e] at h; cases h
    | some o =>
      rw [List.getElem?_append_left (List.getElem?_eq_some_iff.mp e).1, e]
      rw [e] at h
      exact h
  | _ => simp [lstOf] at h
theorem rowsAre_app {s t : Sto} : ∀ {ws : List W} {G : Grid}, rowsAre s ws G → rowsAre (s ++ t) ws G
  | [], [], _ => True.intro
  | _ :: _, _ :: _, h => ⟨lstOf_app h.1, rowsAre_app h.2⟩
  | [], _ :: _, h => h.elim
  | _ :: _, [], h => h.elim
theorem gridIs_app {s t : Sto} {x : W} {G : Grid} (h : gridIs s x G) : gridIs (s ++ t) x G := by
  obtain ⟨ws, h1, h2⟩ := h
  exact ⟨ws, lstOf_app h1, rowsAre_app h2⟩
theorem mk_den {env : En} {s : Sto} {m : Ax} {x : W} {G : Grid} {w h r c : Int} {v : Bool} (hm : m env s = .ok [.int w, .int h, x, curW r c, .bl v] s) (hg : gridIs s x G) (hs : G.length < 1000000) :
    mkE 0 5 d_Picture_init m env s = .ok (.loc s.length) (s ++ [picO w h G r c v]) := by
  unfold mkE
  rw [hm, R.bind_ok]
  have hi : (s ++ [O.ins 0 (List.replicate 5 none)])[s.length]? = some (.ins 0 [none, none, none, none, none]) := by simp
  rw [show d_Picture_init = r_Picture_init from rfl, init_den (fs := []) (gridIs_app hg) hs hi, R.bind_ok]
  simp
/-- rows that are places, one behind the other -/
theorem rowsAre_locs (G : Grid) (s t : Sto) : rowsAre (s ++ (G.map fun r => O.lst (r.map cellW)) ++ t) ((List.range G.length).map fun i => W.loc (s.length + i)) G := by
  induction G generalizing s with
  | nil => exact True.intro
  | cons r G ih =>
    rw [List.length_cons, List.range_succ_eq_map, List.map_cons]
    refine ⟨?_, ?_⟩
    · simp [lstOf]
    · have e1 : (fun i => W.loc (s.length + i)) ∘ Nat.succ = fun i => W.loc ((s ++ [O.lst (r.map cellW)]).length + i) := by
        funext i
        simp only [Function.comp, List.length_append, List.length_cons, List.length_nil]
        congr 1
        omega
      have e2 : s ++ (O.lst (r.map cellW) :: G.map fun r => O.lst (r.map cellW)) ++ t = (s ++ [O.lst (r.map cellW)]) ++ (G.map fun r => O.lst (r.map cellW)) ++ t := by simp
      rw [List.map_map, e1, e2]
      exact ih _

theorem gridG_len (row : List Int) (w h : Nat) : (gridG row w h).length = h := by simp [gridG]
theorem gridG_row (row : List Int) (w h : Nat) : ∀ r ∈ gridG row w h, r.length = w := by
  intro r hr
  unfold gridG at hr
  obtain ⟨i, _, rfl⟩ := List.mem_map.mp hr
  simp [rowG]
theorem cellOf_p {d : Int} (h : 0 ≤ d) : (cellOf d).p < 200 := by
  unfold cellOf
  split
  · show 97 + d % 4 < 200; omega
  · split
    · show 97 + d % 4 < 200; omega
    · show 97 + d % 4 < 200; omega
theorem gridG_p (row : List Int) (w h : Nat) (hr : ∀ x ∈ row, 0 ≤ x) : ∀ r ∈ gridG row w h, ∀ c ∈ r, c.p < 200 := by
  intro r h1 c h2
  unfold gridG at h1
  obtain ⟨i, _, rfl⟩ := List.mem_map.mp h1
  unfold rowG at h2
  obtain ⟨j, _, rfl⟩ := List.mem_map.mp h2
  apply cellOf_p
  cases e : row[i * w + j]? with
  | none => simp [List.getD, e]
  | some x => simp only [List.getD, e, Option.getD_some]; exact hr x (List.mem_of_getElem? e)
theorem rows_map_locs (s : Sto) (base : Nat) : ∀ (O : Grid) (j : Nat), (∀ (i : Nat) (r : List Cell), O[i]? = some r → s[base + j + i]? = some (.lst (r.map cellW))) → rowsAre s ((List.range O.length).map fun i => W.loc (base + j + i)) O
  | [], _, _ => True.intro
  | r :: O, j, h => by
    rw [List.length_cons, List.range_succ_eq_map, List.map_cons, List.map_map]
    refine ⟨by have := h 0 r rfl; simp only [lstOf, Nat.add_zero] at this ⊢; rw [this], ?_⟩
    have e : (fun i => W.loc (base + j + i)) ∘ Nat.succ = fun i => W.loc (base + (j + 1) + i) := by
      funext i
      simp only [Function.comp]
      congr 1
      omega
    rw [e]
    refine rows_map_locs s base O (j + 1) fun i r hi => ?_
    have := h (i + 1) r (by simpa using hi)
    rw [show base + (j + 1) + i = base + j + (i + 1) by omega]
    exact this
theorem Oth.grid {s : Sto} {base h w : Nat} {O : Grid} (H : Oth s base h w O) : gridIs s (othW base h) O := by
  refine ⟨_, rfl, ?_⟩
  have := rows_map_locs s base O 0 (fun i r hi => H.at_ i r hi)
  rw [H.len] at this
  exact this
theorem Oth.shape {s : Sto} {base h w : Nat} {O R : Grid} (H : Oth s base h w O) (hl : R.length = h) (hr : ∀ r ∈ R, r.length = w) : R.map List.length = O.map List.length := by
  have e : ∀ G : Grid, (∀ r ∈ G, r.length = w) → G.map List.length = List.replicate G.length w := fun G hG => by
    induction G with
    | nil => rfl
    | cons r G ih =>
      simp only [List.map_cons, List.length_cons, List.replicate_succ]
      rw [hG r (by simp), ih fun r hr => hG r (by simp [hr])]
  rw [e R hr, e O H.row, H.len, hl]
theorem eqO_pics {s : Sto} {a b : Nat} {w h r c w2 h2 r2 c2 : Int} {G G2 : Grid} {v v2 : Bool} (ha : s[a]? = some (picO w h G r c v)) (hb : s[b]? = some (picO w2 h2 G2 r2 c2 v2)) :
    eqO 0 d_Picture_eq (.loc a) (.loc b) s = .ok (.bl (decide (w = w2 ∧ h = h2 ∧ G = G2 ∧ (r = r2 ∧ c = c2) ∧ v = v2))) s := by
  unfold eqO
  rw [if_pos ⟨by simp [isIns, ha, picO], .inl (by simp [isIns, hb, picO])⟩, show d_Picture_eq = r_Picture_eq from rfl, eq_den ha hb]
  rfl
theorem eqO_other {s : Sto} {a : Nat} {y : W} {w h r c : Int} {G : Grid} {v : Bool} (ha : s[a]? = some (picO w h G r c v)) (h1 : isIns 0 y s = false) (h2 : (tyOf s y).isSome = true) :
    eqO 0 d_Picture_eq (.loc a) y s = .ok (.bl false) s := by
  unfold eqO
  rw [if_pos ⟨by simp [isIns, ha, picO], .inr h2⟩, show d_Picture_eq = r_Picture_eq from rfl, eq_other h1 h2]
  rfl
theorem tbeq {d : List W → Sto → R W} {m : Ex} {i p : Nat} {y : W} {b : Bool} {env : En} {s s4 : Sto} (hv : env[i]? = some (some (.loc p))) (hm : m env s = .ok y s4) (he : eqO 0 d (.loc p) y s4 = .ok (.bl b) s4) : (tb (bn (eqO 0 d) (vr i) m)) env s = .ok b s4 := by
  have hv' : vr i env s = .ok (.loc p) s := by simp [vr, hv]
  simp only [tb, bn, hv', R.bind_ok, hm, he, W.cb_bl]
theorem notB_ok {a : Bx} {env : En} {s s' : Sto} {b : Bool} (h : a env s = .ok b s') : notB a env s = .ok (!b) s' := by
  unfold notB
  rw [h]
  rfl
theorem orB_ff {a b : Bx} {env : En} {s s1 s2 : Sto} {k : Bool} (h : a env s = .ok false s1) (h2 : b env s1 = .ok k s2) : orB a b env s = .ok k s2 := by
  unfold orB
  rw [h, R.bind_ok, if_neg (by decide), h2]
theorem if_ff {c : Bx} {a : Sx} {env : En} {s s1 : Sto} (h : c env s = .ok false s1) : ifS c a passS env s = .nx env s1 := by
  unfold ifS
  rw [h, R.toS_ok, if_neg (by decide)]
  rfl
theorem copy_den {env : En} {R : Grid} {s : Sto} (he : env.length = 17) (h4 : env[4]? = some (some (gridW R))) (hl : R.length < 1000) :
    lcS [16] (sqI (vr 4)) (ct1 16) yesB (clE listLF (axc (vr 16) axn)) env s = .ok ((List.range R.length).map fun i => W.loc (s.length + i)) (s ++ R.map fun r => O.lst (r.map cellW)) := by
  have hv : vr 4 env s = .ok (gridW R) s := by simp [vr, h4]
  unfold lcS sqI
  rw [hv]
  simp only [_root_.ML.R.bind_ok, gridW]
  rw [if_pos (ck_iff.mpr (by simp; omega))]
  exact copy_rows (by rw [wipeE_length]; exact he) R s
theorem sq_nx {a b : Sx} {env env' : En} {s s' : Sto} (h : a env s = .nx env' s') : sqS a b env s = b env' s' := by
  unfold sqS
  rw [h]
  rfl
theorem law_true : ∀ ns : List Int, ns.length ≤ 63 → ∃ st', r_law [.kl (ns.map W.int)] [] = .ok (.bl true) st' := by
  intro ns hl
  have hc0 := fun s => cell_den ns 0 s
  have hc1 := fun s => cell_den ns 1 s
  have hc2 := fun s => cell_den ns 2 s
  rw [show ((0 : Nat) : Int) = 0 from rfl] at hc0
  rw [show ((1 : Nat) : Int) = 1 from rfl] at hc1
  rw [show ((2 : Nat) : Int) = 2 from rfl] at hc2
  generalize ns.getD 0 0 = f at hc0
  generalize ns.getD 1 0 = cc at hc1
  generalize ns.getD 2 0 = kk0 at hc2
  obtain ⟨w, ew⟩ := Int.eq_ofNat_of_zero_le (show 0 ≤ 2 + f % 8 by omega)
  obtain ⟨h, eh⟩ := Int.eq_ofNat_of_zero_le (show 0 ≤ 1 + f / 8 % 5 by omega)
  have w1 : 2 ≤ w ∧ w ≤ 9 := by omega
  have h1 : 1 ≤ h ∧ h ≤ 5 := by omega
  have hcell := fun s => cellsd cc w h s (by omega) (by omega)
  have hRl := gridG_len (rowL cc (w * h) 12) w h
  have hRr := gridG_row (rowL cc (w * h) 12) w h
  have hRp := gridG_p (rowL cc (w * h) 12) w h (fun x hx => (rowL_mem (by omega) x hx).1)
  generalize gridG (rowL cc (w * h) 12) w h = R at hcell hRl hRr hRp
  unfold r_law
  simp only [bodyD, pad, List.map, List.length, List.replicate, List.cons_append, List.nil_append, Nat.reduceAdd, Nat.reduceSub]
  rw [sq_nx (env' := [some (.kl (ns.map W.int)), some (.int f), none, none, none, none, none, none, none, none, none, none, none, none, none, none, none]) (s' := []) (by simp [setS, clE, axc, axn, vr, kk, hc0])]
  rw [sq_nx (env' := [some (.kl (ns.map W.int)), some (.int f), some (.int w), none, none, none, none, none, none, none, none, none, none, none, none, none, none]) (s' := []) (by simp [bodyD, pad, sqS, ifS, orB, andB, notB, tb, bn, un, addW, mulW, negW, notW, mulOk, int0, intW, vr, kk, rtS, rnS, exS, orE, andE, chn, ifE, trB, truW, lstOf, seqOf, lstK, passS, noS, setS, asgS, parS, axc, axn, flE, lsE, tupE, clE, mthE, mkE, isIns, fldW, setFS, augFS, setFd, gFd, gNm, gTp, gsC, gsN, augS, lenF, absF, intF, allF, anyF, sumF, maxF, minF, listF, listLF, tupF, isiW, tyOf, Ty.le, ixW, lmE, appF, extF, popF, flatW, veqW, inW, ninW, forS, sqI, lpS, forL, rg1, rg2, slE, slF, slLF, oxn, oxs, inT, getT, isnW, nonW, isbW, nibW, idxF, firstI, gSb, setI, ixN, bkS, ctS, whS, eq_int, ne_int, eq_bl, ne_bl, atI_l0, atI_l1, atI_l2, atI_l3, ew])]
  rw [sq_nx (env' := [some (.kl (ns.map W.int)), some (.int f), some (.int w), some (.int h), none, none, none, none, none, none, none, none, none, none, none, none, none]) (s' := []) (by simp [bodyD, pad, sqS, ifS, orB, andB, notB, tb, bn, un, addW, mulW, negW, notW, mulOk, int0, intW, vr, kk, rtS, rnS, exS, orE, andE, chn, ifE, trB, truW, lstOf, seqOf, lstK, passS, noS, setS, asgS, parS, axc, axn, flE, lsE, tupE, clE, mthE, mkE, isIns, fldW, setFS, augFS, setFd, gFd, gNm, gTp, gsC, gsN, augS, lenF, absF, intF, allF, anyF, sumF, maxF, minF, listF, listLF, tupF, isiW, tyOf, Ty.le, ixW, lmE, appF, extF, popF, flatW, veqW, inW, ninW, forS, sqI, lpS, forL, rg1, rg2, slE, slF, slLF, oxn, oxs, inT, getT, isnW, nonW, isbW, nibW, idxF, firstI, gSb, setI, ixN, bkS, ctS, whS, eq_int, ne_int, eq_bl, ne_bl, atI_l0, atI_l1, atI_l2, atI_l3, eh])]
  rw [sq_nx (env' := [some (.kl (ns.map W.int)), some (.int f), some (.int w), some (.int h), some (gridW R), none, none, none, none, none, none, none, none, none, none, none, none]) (s' := []) (by simp [setS, clE, axc, axn, vr, kk, hc1, hcell])]
  have hw0 : 0 < w := by omega
  have hh0 : 0 < h := by omega
  have hb1 : (w : Int) < 1073741824 := by omega
  have hb2 : (h : Int) < 1073741824 := by omega
  rw [sq_nx (env' := [some (.kl (ns.map W.int)), some (.int f), some (.int w), some (.int h), some (gridW R), some (curW (f / 40 % h) (f / 200 % w)), none, none, none, none, none, none, none, none, none, none, none]) (s' := []) (by simp [bodyD, pad, sqS, ifS, orB, andB, notB, tb, bn, un, addW, mulW, negW, notW, mulOk, int0, intW, vr, kk, rtS, rnS, exS, orE, andE, chn, ifE, trB, truW, lstOf, seqOf, lstK, passS, noS, setS, asgS, parS, axc, axn, flE, lsE, tupE, clE, mthE, mkE, isIns, fldW, setFS, augFS, setFd, gFd, gNm, gTp, gsC, gsN, augS, lenF, absF, intF, allF, anyF, sumF, maxF, minF, listF, listLF, tupF, isiW, tyOf, Ty.le, ixW, lmE, appF, extF, popF, flatW, veqW, inW, ninW, forS, sqI, lpS, forL, rg1, rg2, slE, slF, slLF, oxn, oxs, inT, getT, isnW, nonW, isbW, nibW, idxF, firstI, gSb, setI, ixN, bkS, ctS, whS, eq_int, ne_int, eq_bl, ne_bl, atI_l0, atI_l1, atI_l2, atI_l3, hw0, hh0, curW])]
  generalize f / 40 % (h : Int) = cr
  generalize f / 200 % (w : Int) = cl
  have hcp := copy_den (env := [some (.kl (ns.map W.int)), some (.int f), some (.int w), some (.int h), some (gridW R), some (curW cr cl), none, none, none, none, none, none, none, none, none, none, none]) (R := R) (s := []) rfl rfl (by omega)
  rw [sq_nx (env' := [some (.kl (ns.map W.int)), some (.int f), some (.int w), some (.int h), some (gridW R), some (curW cr cl), some (.loc h), none, none, none, none, none, none, none, none, none, none]) (s' := (R.map fun r => O.lst (r.map cellW)) ++ [.lst ((List.range h).map fun i => W.loc i)]) (by
    unfold setS lcQ
    rw [hcp]
    simp [hRl])]
  have hra := rowsAre_locs R [] [.lst ((List.range h).map fun i => W.loc i)]
  simp only [List.nil_append, List.length_nil, Nat.zero_add, hRl] at hra
  have hS0 : ((R.map fun r => O.lst (r.map cellW)) ++ [O.lst ((List.range h).map fun i => W.loc i)]).length = h + 1 := by simp [hRl]
  have hSh : ((R.map fun r => O.lst (r.map cellW)) ++ [O.lst ((List.range h).map fun i => W.loc i)])[h]? = some (.lst ((List.range h).map fun i => W.loc i)) := by
    rw [List.getElem?_append_right (by simp [hRl])]
    simp [hRl]
  obtain ⟨r0, hr0⟩ : ∃ r0, R[0]? = some r0 := ⟨R[0]'(by omega), by simp⟩
  have hS1 : ((R.map fun r => O.lst (r.map cellW)) ++ [O.lst ((List.range h).map fun i => W.loc i)])[0]? = some (.lst (r0.map cellW)) := by
    rw [List.getElem?_append_left (by simp; omega)]
    simp [hr0]
  have hr0l := hRr r0 (List.mem_of_getElem? hr0)
  generalize (R.map fun r => O.lst (r.map cellW)) ++ [O.lst ((List.range h).map fun i => W.loc i)] = S0 at hra hS0 hSh hS1 ⊢
  have hg0 : gridIs S0 (.loc h) R := ⟨_, by simp [lstOf, hSh], hra⟩
  have hm1 : mkE 0 5 d_Picture_init (axc (vr 2) (axc (vr 3) (axc (vr 6) (axc (vr 5) (axc (kk (.bl true)) axn))))) [some (.kl (ns.map W.int)), some (.int f), some (.int w), some (.int h), some (gridW R), some (curW cr cl), some (.loc h), none, none, none, none, none, none, none, none, none, none] S0 = .ok (.loc S0.length) (S0 ++ [picO w h R cr cl true]) :=
    mk_den (by simp [axc, axn, vr, kk]) hg0 (by omega)
  rw [hS0] at hm1
  rw [sq_nx (env' := [some (.kl (ns.map W.int)), some (.int f), some (.int w), some (.int h), some (gridW R), some (curW cr cl), some (.loc h), some (.loc (h + 1)), none, none, none, none, none, none, none, none, none]) (s' := S0 ++ [picO w h R cr cl true]) (by
    unfold setS
    rw [hm1]
    simp)]
  -- handed[0][0] = .., handed.append([])
  have hp0 : (S0 ++ [picO w h R cr cl true])[h + 1]? = some (picO w h R cr cl true) := by rw [← hS0]; simp
  have hq0 : (S0 ++ [picO w h R cr cl true])[h]? = some (.lst ((List.range h).map fun i => W.loc i)) := by rw [List.getElem?_append_left (by omega)]; exact hSh
  have hq1 : (S0 ++ [picO w h R cr cl true])[0]? = some (.lst (r0.map cellW)) := by rw [List.getElem?_append_left (by omega)]; exact hS1
  generalize S0 ++ [picO w h R cr cl true] = s1 at hp0 hq0 hq1 ⊢
  have i0 : atI ((List.range h).map fun i => W.loc i) 0 = some (.loc 0) := atI_nat (j := 0) (by simp [hh0])
  rw [sq_nx (env' := [some (.kl (ns.map W.int)), some (.int f), some (.int w), some (.int h), some (gridW R), some (curW cr cl), some (.loc h), some (.loc (h + 1)), none, none, none, none, none, none, none, none, none]) (s' := s1.set 0 (.lst ((r0.map cellW).set 0 (cellW ⟨65, 2, 2, 2⟩)))) (by
    have hz : W.tup [.int 65, .tup [.int 2, .int 2, .int 2]] = cellW ⟨65, 2, 2, 2⟩ := rfl
    have hr0p : 0 < r0.length := by omega
    simp [bodyD, pad, sqS, ifS, orB, andB, notB, tb, bn, un, addW, mulW, negW, notW, mulOk, int0, intW, vr, kk, rtS, rnS, exS, orE, andE, chn, ifE, trB, truW, lstOf, seqOf, lstK, passS, noS, setS, asgS, parS, axc, axn, flE, lsE, tupE, clE, mthE, mkE, isIns, fldW, setFS, augFS, setFd, gFd, gNm, gTp, gsC, gsN, augS, lenF, absF, intF, allF, anyF, sumF, maxF, minF, listF, listLF, tupF, isiW, tyOf, Ty.le, ixW, lmE, appF, extF, popF, flatW, veqW, inW, ninW, forS, sqI, lpS, forL, rg1, rg2, slE, slF, slLF, oxn, oxs, inT, getT, isnW, nonW, isbW, nibW, idxF, firstI, gSb, setI, ixN, bkS, ctS, whS, eq_int, ne_int, eq_bl, ne_bl, atI_l0, atI_l1, atI_l2, atI_l3, hq0, hq1, i0, hz, hr0p])]
  have hq2 : (s1.set 0 (.lst ((r0.map cellW).set 0 (cellW ⟨65, 2, 2, 2⟩))))[h]? = some (.lst ((List.range h).map fun i => W.loc i)) := by rw [List.getElem?_set_ne (by omega)]; exact hq0
  have hp2 : (s1.set 0 (.lst ((r0.map cellW).set 0 (cellW ⟨65, 2, 2, 2⟩))))[h + 1]? = some (picO w h R cr cl true) := by rw [List.getElem?_set_ne (by omega)]; exact hp0
  generalize s1.set 0 (.lst ((r0.map cellW).set 0 (cellW ⟨65, 2, 2, 2⟩))) = s2 at hq2 hp2 ⊢
  rw [sq_nx (env' := [some (.kl (ns.map W.int)), some (.int f), some (.int w), some (.int h), some (gridW R), some (curW cr cl), some (.loc h), some (.loc (h + 1)), none, none, none, none, none, none, none, none, none]) (s' := s2.set h (.lst (((List.range h).map fun i => W.loc i) ++ [.fl []]))) (by
    have hh7 : h < 10000000 := by omega
    simp [bodyD, pad, sqS, ifS, orB, andB, notB, tb, bn, un, addW, mulW, negW, notW, mulOk, int0, intW, vr, kk, rtS, rnS, exS, orE, andE, chn, ifE, trB, truW, lstOf, seqOf, lstK, passS, noS, setS, asgS, parS, axc, axn, flE, lsE, tupE, clE, mthE, mkE, isIns, fldW, setFS, augFS, setFd, gFd, gNm, gTp, gsC, gsN, augS, lenF, absF, intF, allF, anyF, sumF, maxF, minF, listF, listLF, tupF, isiW, tyOf, Ty.le, ixW, lmE, appF, extF, popF, flatW, veqW, inW, ninW, forS, sqI, lpS, forL, rg1, rg2, slE, slF, slLF, oxn, oxs, inT, getT, isnW, nonW, isbW, nibW, idxF, firstI, gSb, setI, ixN, bkS, ctS, whS, eq_int, ne_int, eq_bl, ne_bl, atI_l0, atI_l1, atI_l2, atI_l3, hq2, hh7])]
  have hp3 : (s2.set h (.lst (((List.range h).map fun i => W.loc i) ++ [.fl []])))[h + 1]? = some (picO w h R cr cl true) := by rw [List.getElem?_set_ne (by omega)]; exact hp2
  generalize s2.set h (.lst (((List.range h).map fun i => W.loc i) ++ [.fl []])) = s3 at hp3 ⊢
  generalize h + 1 = p at hp3 ⊢
  have hp3' := hp3
  unfold picO at hp3'
  -- the first question
  rw [sq_nx (env' := [some (.kl (ns.map W.int)), some (.int f), some (.int w), some (.int h), some (gridW R), some (curW cr cl), some (.loc h), some (.loc p), none, none, none, none, none, none, none, none, none]) (s' := s3) (by
    have e1 := ne_grid (gridIs_fl s3 R) (gridIs_fl s3 R)
    have e2 := ne_cur cr cl cr cl s3
    simp only [decide_true, Bool.not_true, and_self] at e1 e2
    simp [bodyD, pad, sqS, ifS, orB, andB, notB, tb, bn, un, addW, mulW, negW, notW, mulOk, int0, intW, vr, kk, rtS, rnS, exS, orE, andE, chn, ifE, trB, truW, lstOf, seqOf, lstK, passS, noS, setS, asgS, parS, axc, axn, flE, lsE, tupE, clE, mthE, mkE, isIns, fldW, setFS, augFS, setFd, gFd, gNm, gTp, gsC, gsN, augS, lenF, absF, intF, allF, anyF, sumF, maxF, minF, listF, listLF, tupF, isiW, tyOf, Ty.le, ixW, lmE, appF, extF, popF, flatW, veqW, inW, ninW, forS, sqI, lpS, forL, rg1, rg2, slE, slF, slLF, oxn, oxs, inT, getT, isnW, nonW, isbW, nibW, idxF, firstI, gSb, setI, ixN, bkS, ctS, whS, eq_int, ne_int, eq_bl, ne_bl, atI_l0, atI_l1, atI_l2, atI_l3, hp3', e1, e2])]
  -- the second question
  have hx2 : ∀ (e8 e9 e10 e11 e12 e13 e14 e15 e16 : Option W) (s : Sto), mkE 0 5 d_Picture_init (axc (vr 2) (axc (vr 3) (axc (vr 4) (axc (vr 5) (axc (kk (.bl true)) axn))))) [some (.kl (ns.map W.int)), some (.int f), some (.int w), some (.int h), some (gridW R), some (curW cr cl), some (.loc h), some (.loc p), e8, e9, e10, e11, e12, e13, e14, e15, e16] s = .ok (.loc s.length) (s ++ [picO w h R cr cl true]) :=
    fun e8 e9 e10 e11 e12 e13 e14 e15 e16 s => mk_den (by simp [axc, axn, vr, kk]) (gridIs_fl s R) (by omega)
  have hp4 : (s3 ++ [picO w h R cr cl true])[p]? = some (picO w h R cr cl true) := by rw [List.getElem?_append_left (List.getElem?_eq_some_iff.mp hp3).1]; exact hp3
  rw [sq_nx (if_ff (orB_ff (s1 := s3) (by simp [bodyD, pad, sqS, ifS, orB, andB, notB, tb, bn, un, addW, mulW, negW, notW, mulOk, int0, intW, vr, kk, rtS, rnS, exS, orE, andE, chn, ifE, trB, truW, lstOf, seqOf, lstK, passS, noS, setS, asgS, parS, axc, axn, flE, lsE, tupE, clE, mthE, mkE, isIns, fldW, setFS, augFS, setFd, gFd, gNm, gTp, gsC, gsN, augS, lenF, absF, intF, allF, anyF, sumF, maxF, minF, listF, listLF, tupF, isiW, tyOf, Ty.le, ixW, lmE, appF, extF, popF, flatW, veqW, inW, ninW, forS, sqI, lpS, forL, rg1, rg2, slE, slF, slLF, oxn, oxs, inT, getT, isnW, nonW, isbW, nibW, idxF, firstI, gSb, setI, ixN, bkS, ctS, whS, eq_int, ne_int, eq_bl, ne_bl, atI_l0, atI_l1, atI_l2, atI_l3, hp3']) (notB_ok (tbeq (p := p) rfl (hx2 _ _ _ _ _ _ _ _ _ s3) (by
    have := eqO_pics hp4 (b := s3.length) (by simp; rfl)
    simp only [and_self, decide_true] at this
    exact this)))))]
  generalize s3 ++ [picO w h R cr cl true] = s4 at hp4 ⊢
  -- the copy
  have hcp2 := copy_den (env := [some (.kl (ns.map W.int)), some (.int f), some (.int w), some (.int h), some (gridW R), some (curW cr cl), some (.loc h), some (.loc p), none, none, none, none, none, none, none, none, none]) (R := R) (s := s4) rfl rfl (by omega)
  rw [sq_nx (env' := [some (.kl (ns.map W.int)), some (.int f), some (.int w), some (.int h), some (gridW R), some (curW cr cl), some (.loc h), some (.loc p), some (othW s4.length h), none, none, none, none, none, none, none, none]) (s' := s4 ++ R.map fun r => O.lst (r.map cellW)) (by
    unfold setS lcE
    rw [hcp2, hRl]
    simp [othW])]
  have hpl : p < s4.length := (List.getElem?_eq_some_iff.mp hp4).1
  have hp5 : (s4 ++ R.map fun r => O.lst (r.map cellW))[p]? = some (picO w h R cr cl true) := by rw [List.getElem?_append_left hpl]; exact hp4
  have hO5 : Oth (s4 ++ R.map fun r => O.lst (r.map cellW)) s4.length h w R := ⟨hRl, hRr, fun i r hi => by
    rw [List.getElem?_append_right (by omega)]
    simp [hi]⟩
  generalize s4.length = base at hpl hO5 ⊢
  generalize (s4 ++ R.map fun r => O.lst (r.map cellW)) = s5 at hp5 hO5 ⊢
  rw [sq_nx (env' := [some (.kl (ns.map W.int)), some (.int f), some (.int w), some (.int h), some (gridW R), some (curW cr cl), some (.loc h), some (.loc p), some (othW base h), some (.int ((0 : Nat) : Int)), none, none, none, none, none, none, none]) (s' := s5) (by simp [setS, kk])]
  obtain ⟨O', s6, y0, y1, y2, y3, cl1, cl2, cl3⟩ := chg_loop ns R w h base (some (.int f)) (some (curW cr cl)) (some (.loc h)) (some (.loc p)) none none none hh0 hw0 (by omega) (by omega) hRl hRr hRp (kk0 % 4).toNat 0 0 R s5 none none none none hO5 (diffG_self R)
  have hm4 : 0 ≤ kk0 % 4 ∧ kk0 % 4 < 4 := by omega
  rw [sq_nx (env' := [some (.kl (ns.map W.int)), some (.int f), some (.int w), some (.int h), some (gridW R), some (curW cr cl), some (.loc h), some (.loc p), some (othW base h), some (.int (diffG R O' : Nat)), y0, y1, y2, y3, none, none, none]) (s' := s6) (by
    have hrg : (rg1 (axc (bn modW (clE d__law_cell (axc (vr 0) (axc (kk (.int 2)) axn))) (kk (.int 4))) axn)) [some (.kl (ns.map W.int)), some (.int f), some (.int w), some (.int h), some (gridW R), some (curW cr cl), some (.loc h), some (.loc p), some (othW base h), some (.int ((0 : Nat) : Int)), none, none, none, none, none, none, none] s5 = .ok (.st (rngL 0 (kk0 % 4).toNat)) s5 := by
      simp [rg1, axc, axn, bn, modW, intW, clE, vr, kk, hc2, smI_small hm4.1 (by omega)]
    unfold forS
    rw [hrg, _root_.ML.R.toS_ok]
    exact cl1)]
  have hp6 : s6[p]? = some (picO w h R cr cl true) := by rw [cl3 p hpl]; exact hp5
  have hg6 := cl2.grid
  have hsh := cl2.shape hRl hRr
  have hOl := cl2.len
  have hm6 : mkE 0 5 d_Picture_init (axc (vr 2) (axc (vr 3) (axc (vr 8) (axc (vr 5) (axc (kk (.bl true)) axn))))) [some (.kl (ns.map W.int)), some (.int f), some (.int w), some (.int h), some (gridW R), some (curW cr cl), some (.loc h), some (.loc p), some (othW base h), some (.int (diffG R O' : Nat)), y0, y1, y2, y3, none, none, none] s6 = .ok (.loc s6.length) (s6 ++ [picO w h O' cr cl true]) :=
    mk_den (by simp [axc, axn, vr, kk]) hg6 (by omega)
  rw [sq_nx (env' := [some (.kl (ns.map W.int)), some (.int f), some (.int w), some (.int h), some (gridW R), some (curW cr cl), some (.loc h), some (.loc p), some (othW base h), some (.int (diffG R O' : Nat)), y0, y1, y2, y3, some (.loc s6.length), none, none]) (s' := s6 ++ [picO w h O' cr cl true]) (by
    unfold setS
    rw [hm6]
    simp)]
  have hp7 : (s6 ++ [picO w h O' cr cl true])[p]? = some (picO w h R cr cl true) := by rw [List.getElem?_append_left (List.getElem?_eq_some_iff.mp hp6).1]; exact hp6
  have hq7 : (s6 ++ [picO w h O' cr cl true])[s6.length]? = some (picO w h O' cr cl true) := by simp
  generalize s6.length = q at hq7 ⊢
  generalize s6 ++ [picO w h O' cr cl true] = s7 at hp7 hq7 ⊢
  have hd7 := diff_den hp7 hq7
  have he7 := eqO_pics hp7 hq7
  rw [sq_nx (env' := [some (.kl (ns.map W.int)), some (.int f), some (.int w), some (.int h), some (gridW R), some (curW cr cl), some (.loc h), some (.loc p), some (othW base h), some (.int (diffG R O' : Nat)), y0, y1, y2, y3, some (.loc q), some (.int (diffG R O' : Nat)), none]) (s' := s7) (by simp [setS, clE, axc, axn, vr, hd7])]
  have hiff : (R = O') ↔ (diffG R O' = 0) := ⟨fun e => by rw [← e]; exact diffG_self R, fun e => diffG_zero R O' hsh e⟩
  rw [sq_nx (env' := [some (.kl (ns.map W.int)), some (.int f), some (.int w), some (.int h), some (gridW R), some (curW cr cl), some (.loc h), some (.loc p), some (othW base h), some (.int (diffG R O' : Nat)), y0, y1, y2, y3, some (.loc q), some (.int (diffG R O' : Nat)), none]) (s' := s7) (by
    have hi7 : d__law_integer [.int (diffG R O' : Nat)] s7 = .ok (.bl true) s7 := integer_int _ _
    generalize diffG R O' = dn at hiff hi7 ⊢
    by_cases hz : dn = 0
    · have hRO := hiff.mpr hz
      simp only [hRO, and_self, decide_true] at he7
      subst hz
      have hi0 : d__law_integer [.int 0] s7 = .ok (.bl true) s7 := integer_int 0 s7
      simp [hi0, ifS, orB, notB, trB, truW, tb, bn, clE, axc, axn, vr, kk, hi7, he7, ne_int, eq_int, ne_bl, passS]
    · have hRO : ¬ R = O' := fun e => hz (hiff.mp e)
      simp only [hRO, false_and, and_false, decide_false] at he7
      simp [ifS, orB, notB, trB, truW, tb, bn, clE, axc, axn, vr, kk, hi7, he7, ne_int, eq_int, ne_bl, passS, hz])]
  -- other cursors, flags, sizes
  have app : ∀ (s : Sto) (o : O), s[p]? = some (picO w h R cr cl true) → (s ++ [o])[p]? = some (picO w h R cr cl true) := fun s o hh => by rw [List.getElem?_append_left (List.getElem?_eq_some_iff.mp hh).1]; exact hh
  have new : ∀ (s : Sto) (o : O), (s ++ [o])[s.length]? = some o := fun s o => by simp
  have g1 : ∀ s : Sto, mkE 0 5 d_Picture_init (axc (vr 2) (axc (vr 3) (axc (vr 4) (axc (tupE (axc (bn ixW (vr 5) (kk (.int 0))) (axc (bn addW (bn ixW (vr 5) (kk (.int 1))) (kk (.int 1))) axn))) (axc (kk (.bl true)) axn))))) [some (.kl (ns.map W.int)), some (.int f), some (.int w), some (.int h), some (gridW R), some (curW cr cl), some (.loc h), some (.loc p), some (othW base h), some (.int (diffG R O' : Nat)), y0, y1, y2, y3, some (.loc q), some (.int (diffG R O' : Nat)), none] s = .ok (.loc s.length) (s ++ [picO w h R cr (cl + 1) true]) :=
    fun s => mk_den (by simp [axc, axn, vr, kk, tupE, bn, ixW, curW, seqOf, lstOf, atI_l0, atI_l1, addW]) (gridIs_fl s R) (by omega)
  have g2 : ∀ s : Sto, mkE 0 5 d_Picture_init (axc (vr 2) (axc (vr 3) (axc (vr 4) (axc (vr 5) (axc (kk (.bl false)) axn))))) [some (.kl (ns.map W.int)), some (.int f), some (.int w), some (.int h), some (gridW R), some (curW cr cl), some (.loc h), some (.loc p), some (othW base h), some (.int (diffG R O' : Nat)), y0, y1, y2, y3, some (.loc q), some (.int (diffG R O' : Nat)), none] s = .ok (.loc s.length) (s ++ [picO w h R cr cl false]) :=
    fun s => mk_den (by simp [axc, axn, vr, kk]) (gridIs_fl s R) (by omega)
  have g3 : ∀ s : Sto, mkE 0 5 d_Picture_init (axc (bn addW (vr 2) (kk (.int 1))) (axc (vr 3) (axc (vr 4) (axc (vr 5) (axc (kk (.bl true)) axn))))) [some (.kl (ns.map W.int)), some (.int f), some (.int w), some (.int h), some (gridW R), some (curW cr cl), some (.loc h), some (.loc p), some (othW base h), some (.int (diffG R O' : Nat)), y0, y1, y2, y3, some (.loc q), some (.int (diffG R O' : Nat)), none] s = .ok (.loc s.length) (s ++ [picO (w + 1) h R cr cl true]) :=
    fun s => mk_den (by simp [axc, axn, vr, kk, bn, addW]) (gridIs_fl s R) (by omega)
  have g4 : ∀ s : Sto, mkE 0 5 d_Picture_init (axc (vr 2) (axc (bn addW (vr 3) (kk (.int 1))) (axc (vr 4) (axc (vr 5) (axc (kk (.bl true)) axn))))) [some (.kl (ns.map W.int)), some (.int f), some (.int w), some (.int h), some (gridW R), some (curW cr cl), some (.loc h), some (.loc p), some (othW base h), some (.int (diffG R O' : Nat)), y0, y1, y2, y3, some (.loc q), some (.int (diffG R O' : Nat)), none] s = .ok (.loc s.length) (s ++ [picO w (h + 1) R cr cl true]) :=
    fun s => mk_den (by simp [axc, axn, vr, kk, bn, addW]) (gridIs_fl s R) (by omega)
  have f1 : ∀ s : Sto, s[p]? = some (picO w h R cr cl true) → eqO 0 d_Picture_eq (.loc p) (.loc s.length) (s ++ [picO w h R cr (cl + 1) true]) = .ok (.bl false) (s ++ [picO w h R cr (cl + 1) true]) := fun s hh => by
    rw [eqO_pics (app s _ hh) (new s _), decide_eq_false (by omega)]
  have f2 : ∀ s : Sto, s[p]? = some (picO w h R cr cl true) → eqO 0 d_Picture_eq (.loc p) (.loc s.length) (s ++ [picO w h R cr cl false]) = .ok (.bl false) (s ++ [picO w h R cr cl false]) := fun s hh => by
    rw [eqO_pics (app s _ hh) (new s _), decide_eq_false (by simp)]
  have f3 : ∀ s : Sto, s[p]? = some (picO w h R cr cl true) → eqO 0 d_Picture_eq (.loc p) (.loc s.length) (s ++ [picO (w + 1) h R cr cl true]) = .ok (.bl false) (s ++ [picO (w + 1) h R cr cl true]) := fun s hh => by
    rw [eqO_pics (app s _ hh) (new s _), decide_eq_false (by omega)]
  have f4 : ∀ s : Sto, s[p]? = some (picO w h R cr cl true) → eqO 0 d_Picture_eq (.loc p) (.loc s.length) (s ++ [picO w (h + 1) R cr cl true]) = .ok (.bl false) (s ++ [picO w (h + 1) R cr cl true]) := fun s hh => by
    rw [eqO_pics (app s _ hh) (new s _), decide_eq_false (by omega)]
  rw [sq_nx (if_ff (orB_ff (tbeq (p := p) rfl (g1 s7) (f1 s7 hp7)) (tbeq (p := p) rfl (g2 _) (f2 _ (app _ _ hp7)))))]
  have hp8 := app _ (picO w h R cr cl false) (app _ (picO w h R cr (cl + 1) true) hp7)
  generalize s7 ++ [picO w h R cr (cl + 1) true] ++ [picO w h R cr cl false] = s8 at hp8 ⊢
  rw [sq_nx (if_ff (orB_ff (tbeq (p := p) rfl (g3 s8) (f3 s8 hp8)) (tbeq (p := p) rfl (g4 _) (f4 _ (app _ _ hp8)))))]
  have hp9 := app _ (picO w (h + 1) R cr cl true) (app _ (picO (w + 1) h R cr cl true) hp8)
  generalize s8 ++ [picO (w + 1) h R cr cl true] ++ [picO w (h + 1) R cr cl true] = s9 at hp9 ⊢
  have t1 : eqO 0 d_Picture_eq (.loc p) (gridW R) s9 = .ok (.bl false) s9 := eqO_other hp9 rfl rfl
  have t2 : eqO 0 d_Picture_eq (.loc p) (.int w) s9 = .ok (.bl false) s9 := eqO_other hp9 rfl rfl
  have t3 := diff_den hp9 hp9
  rw [diffG_self] at t3
  refine ⟨s9, ?_⟩
  simp [rtS, andE, un, bn, vr, kk, t1, t2, notW, truW, clE, axc, axn, t3, eq_int, fin]

end
end Kp

namespace Kp
open PySem L2 ML
def topS (i : Nat) : Stmt := PySem.Challenge.pw_manypanes_k16_pictures_and_their_differe.main.body.getD i (.Pass ⟨0, 0, 0, 0⟩)
abbrev s_Picture_eq : Stmt := inClass (topS 1) 1
abbrev s_Picture_init : Stmt := inClass (topS 1) 0
abbrev s__law_cell : Stmt := topS 4
abbrev s__law_row : Stmt := topS 5
abbrev s__law_cells : Stmt := topS 7
abbrev s__law_integer : Stmt := topS 6
abbrev s_difference : Stmt := topS 2
abbrev s_law : Stmt := topS 8
structure Ad where
  a_Picture_eq : Addr
  fd_Picture_eq : FuncData
  a_Picture_init : Addr
  fd_Picture_init : FuncData
  a__law_cell : Addr
  fd__law_cell : FuncData
  a__law_row : Addr
  fd__law_row : FuncData
  a__law_cells : Addr
  fd__law_cells : FuncData
  a__law_integer : Addr
  fd__law_integer : FuncData
  a_difference : Addr
  fd_difference : FuncData
  a_law : Addr
  fd_law : FuncData
  c_Picture : Addr
abbrev nm_Picture : List Str := ["width", "height", "rows", "cursor", "visible"]
def cx (K : PySem.W.Frag) (A : Ad) : MC := ⟨K, [(A.c_Picture, nm_Picture)], []⟩
theorem cx_Picture (K : PySem.W.Frag) (A : Ad) : (cx K A).cls[0]? = some (A.c_Picture, nm_Picture) := rfl
theorem hu65 {k : Nat} {A : Around} (hr : Room k A) : A.units + 65 < cLine := by have := hr.un; omega
structure Txt (K : PySem.W.Frag) (mg : Str → Option Value) (A : Ad) : Prop where
  F_Picture_eq : Fun K "__eq__" "Picture.__eq__" s_Picture_eq A.a_Picture_eq A.fd_Picture_eq
  b_Picture_eq : Binds K A.fd_Picture_eq ["self", "other"] []
  m_Picture_eq : Meth K A.c_Picture "__eq__" A.a_Picture_eq
  F_Picture_init : Fun K "__init__" "Picture.__init__" s_Picture_init A.a_Picture_init A.fd_Picture_init
  b_Picture_init : Binds K A.fd_Picture_init ["self", "width", "height", "rows", "cursor", "visible"] []
  mk_Picture : Mk K A.c_Picture A.a_Picture_init
  F__law_cell : Fun K "_law_cell" "_law_cell" s__law_cell A.a__law_cell A.fd__law_cell
  b__law_cell : Binds K A.fd__law_cell ["_law_script", "_law_k"] []
  g__law_cell : mg "_law_cell" = some (.ref A.a__law_cell)
  F__law_row : Fun K "_law_row" "_law_row" s__law_row A.a__law_row A.fd__law_row
  b__law_row : Binds K A.fd__law_row ["_law_cell_here", "_law_count", "_law_bound"] []
  g__law_row : mg "_law_row" = some (.ref A.a__law_row)
  F__law_cells : Fun K "_law_cells" "_law_cells" s__law_cells A.a__law_cells A.fd__law_cells
  b__law_cells : Binds K A.fd__law_cells ["_law_cell_here", "_law_w", "_law_h"] []
  g__law_cells : mg "_law_cells" = some (.ref A.a__law_cells)
  F__law_integer : Fun K "_law_integer" "_law_integer" s__law_integer A.a__law_integer A.fd__law_integer
  b__law_integer : Binds K A.fd__law_integer ["_law_value"] []
  g__law_integer : mg "_law_integer" = some (.ref A.a__law_integer)
  F_difference : Fun K "difference" "difference" s_difference A.a_difference A.fd_difference
  b_difference : Binds K A.fd_difference ["first", "second"] []
  g_difference : mg "difference" = some (.ref A.a_difference)
  F_law : Fun K "law" "law" s_law A.a_law A.fd_law
  b_law : Binds K A.fd_law ["_law_script"] []
  g_law : mg "law" = some (.ref A.a_law)
  cl_Picture : Cls K A.c_Picture
  gc_Picture : mg "Picture" = some (.ref A.c_Picture)
  na_Picture_width : NoAttr K A.c_Picture "width"
  na_Picture_height : NoAttr K A.c_Picture "height"
  na_Picture_rows : NoAttr K A.c_Picture "rows"
  na_Picture_cursor : NoAttr K A.c_Picture "cursor"
  na_Picture_visible : NoAttr K A.c_Picture "visible"
  ow_Picture : OwnC K A.c_Picture
  n_abs : mg "abs" = none
  n_bool : mg "bool" = none
  n_int : mg "int" = none
  n_isinstance : mg "isinstance" = none
  n_len : mg "len" = none
  n_list : mg "list" = none
  n_range : mg "range" = none
  n_zip : mg "zip" = none
section
variable {P : Program} {w : World} {K : PySem.W.Frag} {mg : Str → Option Value} {base : Heap} {A : Ad}
theorem sc_Picture_eq : FnScope ["self", "other"] ["self", "other"] (defScope s_Picture_eq) := ⟨rfl, rfl, rfl, by decide +kernel, rfl, by decide +kernel, by decide +kernel⟩
theorem sc_Picture_init : FnScope ["self", "width", "height", "rows", "cursor", "visible", "row"] ["self", "width", "height", "rows", "cursor", "visible"] (defScope s_Picture_init) := ⟨rfl, rfl, rfl, by decide +kernel, rfl, by decide +kernel, by decide +kernel⟩
theorem sc__law_cell : FnScope ["_law_script", "_law_k"] ["_law_script", "_law_k"] (defScope s__law_cell) := ⟨rfl, rfl, rfl, by decide +kernel, rfl, by decide +kernel, by decide +kernel⟩
theorem sc__law_row : FnScope ["_law_cell_here", "_law_count", "_law_bound", "_law_rest", "_law_mixed", "_law_row_here", "_law_k"] ["_law_cell_here", "_law_count", "_law_bound"] (defScope s__law_row) := ⟨rfl, rfl, rfl, by decide +kernel, rfl, by decide +kernel, by decide +kernel⟩
theorem sc__law_cells : FnScope ["_law_cell_here", "_law_w", "_law_h", "_law_styles", "_law_rows", "_law_drawn", "_law_r", "_law_c"] ["_law_cell_here", "_law_w", "_law_h"] (defScope s__law_cells) := ⟨rfl, rfl, rfl, by decide +kernel, rfl, by decide +kernel, by decide +kernel⟩
theorem sc__law_integer : FnScope ["_law_value"] ["_law_value"] (defScope s__law_integer) := ⟨rfl, rfl, rfl, by decide +kernel, rfl, by decide +kernel, by decide +kernel⟩
theorem sc_difference : FnScope ["first", "second", "count", "one", "two", "cell", "other"] ["first", "second"] (defScope s_difference) := ⟨rfl, rfl, rfl, by decide +kernel, rfl, by decide +kernel, by decide +kernel⟩
theorem sc_law : FnScope ["_law_script", "_law_first", "_law_w", "_law_h", "_law_rows", "_law_cursor", "_law_handed", "_law_picture", "_law_others", "_law_count", "_law_k", "_law_x", "_law_r", "_law_c", "_law_other", "_law_actual", "_law_row_here"] ["_law_script"] (defScope s_law) := ⟨rfl, rfl, rfl, by decide +kernel, rfl, by decide +kernel, by decide +kernel⟩
theorem raw_Picture_eq (T : Txt K mg A) : FnOk P w K mg base CX0 1 A.a_Picture_eq A.fd_Picture_eq ["self", "other"] (sp0 (cx K A) 2 r_Picture_eq) :=
  fn_ok (N := ["self", "other"]) T.F_Picture_eq sc_Picture_eq rfl rfl fun cdv A1 outer sh H E hr => (mss_cons (ms_if (mt_not (mt_truth rfl (me_isiO rfl (cx_Picture K A) T.ow_Picture (me_var (pv 1)) rfl T.gc_Picture rfl T.n_isinstance))) (mss_one (ms_ret me_bl)) mss_nil) (mss_cons (ms_if (mt_w (mw_or (mt_cmp (op_neD hr.units) om_ne (me_fld (f := "width") rfl (cx_Picture K A) rfl T.cl_Picture T.na_Picture_width (me_var (pv 0))) (me_fld (f := "width") rfl (cx_Picture K A) rfl T.cl_Picture T.na_Picture_width (me_var (pv 1))) (nomark _)) (mw_or1 (mt_cmp (op_neD hr.units) om_ne (me_fld (f := "height") rfl (cx_Picture K A) rfl T.cl_Picture T.na_Picture_height (me_var (pv 0))) (me_fld (f := "height") rfl (cx_Picture K A) rfl T.cl_Picture T.na_Picture_height (me_var (pv 1))) (nomark _))))) (mss_one (ms_ret me_bl)) mss_nil) (mss_one (ms_ret (me_and (me_cmp (op_eqD hr.units) om_eq (me_fld (f := "rows") rfl (cx_Picture K A) rfl T.cl_Picture T.na_Picture_rows (me_var (pv 0))) (me_fld (f := "rows") rfl (cx_Picture K A) rfl T.cl_Picture T.na_Picture_rows (me_var (pv 1))) (nomark _)) (me_and (me_cmp (op_eqD hr.units) om_eq (me_fld (f := "cursor") rfl (cx_Picture K A) rfl T.cl_Picture T.na_Picture_cursor (me_var (pv 0))) (me_fld (f := "cursor") rfl (cx_Picture K A) rfl T.cl_Picture T.na_Picture_cursor (me_var (pv 1))) (nomark _)) (me_one (me_cmp (op_eqD hr.units) om_eq (me_fld (f := "visible") rfl (cx_Picture K A) rfl T.cl_Picture T.na_Picture_visible (me_var (pv 0))) (me_fld (f := "visible") rfl (cx_Picture K A) rfl T.cl_Picture T.na_Picture_visible (me_var (pv 1))) (nomark _)))))))))
theorem ok_Picture_eq (T : Txt K mg A) : FnOk P w K mg base CX0 1 A.a_Picture_eq A.fd_Picture_eq ["self", "other"] (sp0 (cx K A) 2 d_Picture_eq) := raw_Picture_eq T
theorem raw_Picture_init (T : Txt K mg A) : FnOk P w K mg base CX0 1 A.a_Picture_init A.fd_Picture_init ["self", "width", "height", "rows", "cursor", "visible"] (sp0 (cx K A) 6 r_Picture_init) :=
  fn_ok (N := ["self", "width", "height", "rows", "cursor", "visible", "row"]) T.F_Picture_init sc_Picture_init rfl rfl fun cdv A1 outer sh H E hr => (mss_cons (ms_fld (f := "width") rfl (cx_Picture K A) (by decide +kernel) (by decide) rfl T.cl_Picture T.na_Picture_width (me_var (pv 0)) (me_var (pv 1))) (mss_cons (ms_fld (f := "height") rfl (cx_Picture K A) (by decide +kernel) (by decide) rfl T.cl_Picture T.na_Picture_height (me_var (pv 0)) (me_var (pv 2))) (mss_cons (ms_fld (f := "rows") rfl (cx_Picture K A) (by decide +kernel) (by decide) rfl T.cl_Picture T.na_Picture_rows (me_var (pv 0)) (me_lc (ownP := [("row", 6)]) (ct_name (i := 6) (by decide)) rfl sc_Picture_init.nd (mi_seq rfl (me_var (pv 3))) (blkOk_by (own := [("row", 6)]) (N := ["self", "width", "height", "rows", "cursor", "visible", "row"]) (sc := defScope s_Picture_init) (by decide +kernel)) (fun _ _ _ _ _ => pg_name (i := 6) sc_Picture_init.nd rfl (Or.inl rfl)) (fun _ _ _ _ _ => mts_nil) (fun _ _ _ _ _ => (me_callTy call_list_of cm_list rfl T.n_list (by decide +kernel) (ma_cons (me_var (pv 6)) ma_nil))))) (mss_cons (ms_fld (f := "cursor") rfl (cx_Picture K A) (by decide +kernel) (by decide) rfl T.cl_Picture T.na_Picture_cursor (me_var (pv 0)) (me_var (pv 4))) (mss_one (ms_fld (f := "visible") rfl (cx_Picture K A) (by decide +kernel) (by decide) rfl T.cl_Picture T.na_Picture_visible (me_var (pv 0)) (me_var (pv 5))))))))
theorem ok_Picture_init (T : Txt K mg A) : FnOk P w K mg base CX0 1 A.a_Picture_init A.fd_Picture_init ["self", "width", "height", "rows", "cursor", "visible"] (sp0 (cx K A) 6 d_Picture_init) := raw_Picture_init T
theorem raw__law_cell (T : Txt K mg A) : FnOk P w K mg base CX0 1 A.a__law_cell A.fd__law_cell ["_law_script", "_law_k"] (sp0 (cx K A) 2 r__law_cell) :=
  fn_ok (N := ["_law_script", "_law_k"]) T.F__law_cell sc__law_cell rfl rfl fun cdv A1 outer sh H E hr => (mss_cons (ms_if (mt_cmp op_lt om_lt (me_var (pv 1)) (me_callB call_len_seq cm_len rfl T.n_len (by decide +kernel) (ma_cons (me_var (pv 0)) ma_nil)) (nomark _)) (mss_one (ms_ret (me_callTy call_int1 cm_int rfl T.n_int (by decide +kernel) (ma_cons (me_ix rfl (me_var (pv 0)) (me_var (pv 1))) ma_nil)))) mss_nil) (mss_one (ms_ret me_int)))
theorem ok__law_cell (T : Txt K mg A) : FnOk P w K mg base CX0 1 A.a__law_cell A.fd__law_cell ["_law_script", "_law_k"] (sp0 (cx K A) 2 d__law_cell) := raw__law_cell T
theorem raw__law_row (T : Txt K mg A) : FnOk P w K mg base CX0 1 A.a__law_row A.fd__law_row ["_law_cell_here", "_law_count", "_law_bound"] (sp0 (cx K A) 3 r__law_row) :=
  fn_ok (N := ["_law_cell_here", "_law_count", "_law_bound", "_law_rest", "_law_mixed", "_law_row_here", "_law_k"]) T.F__law_row sc__law_row rfl rfl fun cdv A1 outer sh H E hr => (mss_cons (ms_set (i := 3) sc__law_row.nd rfl (Or.inl rfl) (me_callB call_abs cm_abs rfl T.n_abs (by decide +kernel) (ma_cons (me_callTy call_int1 cm_int rfl T.n_int (by decide +kernel) (ma_cons (me_var (pv 0)) ma_nil)) ma_nil))) (mss_cons (ms_set (i := 4) sc__law_row.nd rfl (Or.inl rfl) (me_op or_add om_add (me_op op_mod om_mod (me_callTy call_int1 cm_int rfl T.n_int (by decide +kernel) (ma_cons (me_var (pv 0)) ma_nil)) me_int) me_int)) (mss_cons (ms_set (i := 5) sc__law_row.nd rfl (Or.inl rfl) (me_ls ma_nil)) (mss_cons (ms_for PassesOwn.never rfl (mi_range1 rfl T.n_range (ma_cons (me_var (pv 1)) ma_nil)) (mg_name (i := 6) sc__law_row.nd rfl (Or.inl rfl)) (mss_one (ms_if (mt_cmp op_ge om_ge (me_var (pv 3)) (me_var (pv 2)) (nomark _)) (mss_cons (ms_expr (me_lm rfl mm_append PySem.F.slot_list_append PySem.F.type_list_append mt_append (me_var (pv 5)) (ma_cons (me_op op_mod om_mod (me_callTy call_int1 cm_int rfl T.n_int (by decide +kernel) (ma_cons (me_var (pv 3)) ma_nil)) (me_var (pv 2))) ma_nil))) (mss_one (ms_set (i := 3) sc__law_row.nd rfl (Or.inl rfl) (me_op op_fdiv om_fdiv (me_var (pv 3)) (me_var (pv 2)))))) (mss_cons (ms_set (i := 4) sc__law_row.nd rfl (Or.inl rfl) (me_op op_mod om_mod (me_callTy call_int1 cm_int rfl T.n_int (by decide +kernel) (ma_cons (me_op or_add om_add (me_op or_add om_add (me_op or_mul om_mul (me_var (pv 4)) me_int) (me_op or_mul om_mul me_int (me_var (pv 6)))) me_int) ma_nil)) me_int)) (mss_one (ms_expr (me_lm rfl mm_append PySem.F.slot_list_append PySem.F.type_list_append mt_append (me_var (pv 5)) (ma_cons (me_op op_mod om_mod (me_callTy call_int1 cm_int rfl T.n_int (by decide +kernel) (ma_cons (me_op op_fdiv om_fdiv (me_op or_mul om_mul (me_var (pv 4)) me_int) me_int) ma_nil)) (me_var (pv 2))) ma_nil)))))))) (mss_one (ms_ret (me_var (pv 5))))))))
theorem ok__law_row (T : Txt K mg A) : FnOk P w K mg base CX0 1 A.a__law_row A.fd__law_row ["_law_cell_here", "_law_count", "_law_bound"] (sp0 (cx K A) 3 d__law_row) := fn_gz (raw__law_row T) gz__law_row
theorem raw__law_cells (T : Txt K mg A) : FnOk P w K mg base CX0 2 A.a__law_cells A.fd__law_cells ["_law_cell_here", "_law_w", "_law_h"] (sp0 (cx K A) 3 r__law_cells) :=
  fn_ok (N := ["_law_cell_here", "_law_w", "_law_h", "_law_styles", "_law_rows", "_law_drawn", "_law_r", "_law_c"]) T.F__law_cells sc__law_cells rfl rfl fun cdv A1 outer sh H E hr => (mss_cons (ms_set (i := 3) sc__law_cells.nd rfl (Or.inr rfl) (me_fl (ma_cons (me_tup (ma_cons (me_neg me_int) (ma_cons (me_neg me_int) (ma_cons me_int ma_nil)))) (ma_cons (me_tup (ma_cons me_int (ma_cons (me_neg me_int) (ma_cons me_int ma_nil)))) (ma_cons (me_tup (ma_cons (me_neg me_int) (ma_cons me_int (ma_cons me_int ma_nil)))) ma_nil))))) (mss_cons (ms_set (i := 4) sc__law_cells.nd rfl (Or.inl rfl) (me_ls ma_nil)) (mss_cons (ms_set (i := 5) sc__law_cells.nd rfl (Or.inr rfl) (me_call (ok__law_row T) (hr.mono (by decide)) rfl T.g__law_row T.F__law_row.kp T.b__law_row rfl (ma_cons (me_var (pv 0)) (ma_cons (me_op or_mul om_mul (me_var (pv 1)) (me_var (pv 2))) (ma_cons me_int ma_nil))))) (mss_cons (ms_for PassesOwn.never rfl (mi_range1 rfl T.n_range (ma_cons (me_var (pv 2)) ma_nil)) (mg_name (i := 6) sc__law_cells.nd rfl (Or.inr rfl)) (mss_one (ms_expr (me_lm rfl mm_append PySem.F.slot_list_append PySem.F.type_list_append mt_append (me_var (pv 4)) (ma_cons (me_lc (ownP := [("_law_c", 7)]) (ct_name (i := 7) (by decide)) rfl sc__law_cells.nd (mi_range1 rfl T.n_range (ma_cons (me_var (pv 1)) ma_nil)) (blkOk_by (own := [("_law_c", 7)]) (N := ["_law_cell_here", "_law_w", "_law_h", "_law_styles", "_law_rows", "_law_drawn", "_law_r", "_law_c"]) (sc := defScope s__law_cells) (by decide +kernel)) (fun _ _ _ _ _ => pg_name (i := 7) sc__law_cells.nd rfl (Or.inl rfl)) (fun _ _ _ _ _ => mts_nil) (fun _ _ _ _ _ => (me_tup (ma_cons (me_op or_add om_add me_int (me_op op_mod om_mod (me_ix rfl (me_var (pv 5)) (me_op or_add om_add (me_op or_mul om_mul (me_var (pv 6)) (me_var (pv 1))) (me_var (pv 7)))) me_int)) (ma_cons (me_ix rfl (me_var (pv 3)) (me_op op_fdiv om_fdiv (me_ix rfl (me_var (pv 5)) (me_op or_add om_add (me_op or_mul om_mul (me_var (pv 6)) (me_var (pv 1))) (me_var (pv 7)))) me_int)) ma_nil))))) ma_nil))))) (mss_one (ms_ret (me_var (pv 4))))))))
theorem ok__law_cells (T : Txt K mg A) : FnOk P w K mg base CX0 2 A.a__law_cells A.fd__law_cells ["_law_cell_here", "_law_w", "_law_h"] (sp0 (cx K A) 3 d__law_cells) := fn_gz (raw__law_cells T) gz__law_cells
theorem raw__law_integer (T : Txt K mg A) : FnOk P w K mg base CX0 1 A.a__law_integer A.fd__law_integer ["_law_value"] (sp0 (cx K A) 1 r__law_integer) :=
  fn_ok (N := ["_law_value"]) T.F__law_integer sc__law_integer rfl rfl fun cdv A1 outer sh H E hr => (mss_one (ms_ret (me_and (me_isi (T := .int) (by intro z; cases z) rfl (me_var (pv 0)) (pe_bltn rfl T.n_int (by decide +kernel) rfl) rfl T.n_isinstance) (me_one (me_not (me_isi (T := .bl) (by intro z; cases z) rfl (me_var (pv 0)) (pe_bltn rfl T.n_bool (by decide +kernel) rfl) rfl T.n_isinstance))))))
theorem ok__law_integer (T : Txt K mg A) : FnOk P w K mg base CX0 1 A.a__law_integer A.fd__law_integer ["_law_value"] (sp0 (cx K A) 1 d__law_integer) := raw__law_integer T
theorem raw_difference (T : Txt K mg A) : FnOk P w K mg base CX0 1 A.a_difference A.fd_difference ["first", "second"] (sp0 (cx K A) 2 r_difference) :=
  fn_ok (N := ["first", "second", "count", "one", "two", "cell", "other"]) T.F_difference sc_difference rfl rfl fun cdv A1 outer sh H E hr => (mss_cons (ms_set (i := 2) sc_difference.nd rfl (Or.inl rfl) me_int) (mss_cons (ms_for PassesOwn.never rfl (mi_zip rfl rfl T.n_zip (ma_cons (me_fld (f := "rows") rfl (cx_Picture K A) rfl T.cl_Picture T.na_Picture_rows (me_var (pv 0))) (ma_cons (me_fld (f := "rows") rfl (cx_Picture K A) rfl T.cl_Picture T.na_Picture_rows (me_var (pv 1))) ma_nil))) (mg_tup rfl rfl (mgs_cons (mg_name (i := 3) sc_difference.nd rfl (Or.inl rfl)) (mgs_cons (mg_name (i := 4) sc_difference.nd rfl (Or.inl rfl)) mgs_nil))) (mss_one (ms_for PassesOwn.never rfl (mi_zip rfl rfl T.n_zip (ma_cons (me_var (pv 3)) (ma_cons (me_var (pv 4)) ma_nil))) (mg_tup rfl rfl (mgs_cons (mg_name (i := 5) sc_difference.nd rfl (Or.inl rfl)) (mgs_cons (mg_name (i := 6) sc_difference.nd rfl (Or.inl rfl)) mgs_nil))) (mss_one (ms_if (mt_cmp (op_neD hr.units) om_ne (me_var (pv 5)) (me_var (pv 6)) (nomark _)) (mss_one (ms_aug (i := 2) sc_difference.nd rfl (Or.inl rfl) me_int ip_add om_ipI)) mss_nil))))) (mss_one (ms_ret (me_var (pv 2))))))
theorem ok_difference (T : Txt K mg A) : FnOk P w K mg base CX0 1 A.a_difference A.fd_difference ["first", "second"] (sp0 (cx K A) 2 d_difference) := raw_difference T
theorem raw_law (T : Txt K mg A) : FnOk P w K mg base CX0 3 A.a_law A.fd_law ["_law_script"] (sp0 (cx K A) 1 r_law) :=
  fn_ok (N := ["_law_script", "_law_first", "_law_w", "_law_h", "_law_rows", "_law_cursor", "_law_handed", "_law_picture", "_law_others", "_law_count", "_law_k", "_law_x", "_law_r", "_law_c", "_law_other", "_law_actual", "_law_row_here"]) T.F_law sc_law rfl rfl fun cdv A1 outer sh H E hr => (mss_cons (ms_set (i := 1) sc_law.nd rfl (Or.inl rfl) (me_call (ok__law_cell T) (hr.mono (by decide)) rfl T.g__law_cell T.F__law_cell.kp T.b__law_cell rfl (ma_cons (me_var (pv 0)) (ma_cons me_int ma_nil)))) (mss_cons (ms_set (i := 2) sc_law.nd rfl (Or.inl rfl) (me_op or_add om_add me_int (me_op op_mod om_mod (me_var (pv 1)) me_int))) (mss_cons (ms_set (i := 3) sc_law.nd rfl (Or.inl rfl) (me_op or_add om_add me_int (me_op op_mod om_mod (me_op op_fdiv om_fdiv (me_var (pv 1)) me_int) me_int))) (mss_cons (ms_set (i := 4) sc_law.nd rfl (Or.inl rfl) (me_call (ok__law_cells T) (hr.mono (by decide)) rfl T.g__law_cells T.F__law_cells.kp T.b__law_cells rfl (ma_cons (me_call (ok__law_cell T) (hr.mono (by decide)) rfl T.g__law_cell T.F__law_cell.kp T.b__law_cell rfl (ma_cons (me_var (pv 0)) (ma_cons me_int ma_nil))) (ma_cons (me_var (pv 2)) (ma_cons (me_var (pv 3)) ma_nil))))) (mss_cons (ms_set (i := 5) sc_law.nd rfl (Or.inl rfl) (me_tup (ma_cons (me_op op_mod om_mod (me_op op_fdiv om_fdiv (me_var (pv 1)) me_int) (me_var (pv 3))) (ma_cons (me_op op_mod om_mod (me_op op_fdiv om_fdiv (me_var (pv 1)) me_int) (me_var (pv 2))) ma_nil)))) (mss_cons (ms_setLcQ (i := 6) (ownP := [("_law_row_here", 16)]) (ct_name (i := 16) (by decide)) rfl sc_law.nd rfl rfl (sw_true rfl rfl rfl (by decide +kernel)) (mi_seq rfl (me_var (pv 4))) (blkOk_by (own := [("_law_row_here", 16)]) (N := ["_law_script", "_law_first", "_law_w", "_law_h", "_law_rows", "_law_cursor", "_law_handed", "_law_picture", "_law_others", "_law_count", "_law_k", "_law_x", "_law_r", "_law_c", "_law_other", "_law_actual", "_law_row_here"]) (sc := defScope s_law) (by decide +kernel)) (fun _ _ _ _ _ => pg_name (i := 16) sc_law.nd rfl (Or.inl rfl)) (fun _ _ _ _ _ => mts_nil) (fun _ _ _ _ _ => (me_callTy call_list_of cm_listL rfl T.n_list (by decide +kernel) (ma_cons (me_var (pv 16)) ma_nil)))) (mss_cons (ms_set (i := 7) sc_law.nd rfl (Or.inl rfl) (me_make (cx_Picture K A) T.mk_Picture (ok_Picture_init T) (hr.mono (by decide)) rfl T.gc_Picture T.b_Picture_init rfl (ma_cons (me_var (pv 2)) (ma_cons (me_var (pv 3)) (ma_cons (me_var (pv 6)) (ma_cons (me_var (pv 5)) (ma_cons me_bl ma_nil))))))) (mss_cons (ms_asg (me_tup (ma_cons me_int (ma_cons (me_tup (ma_cons me_int (ma_cons me_int (ma_cons me_int ma_nil)))) ma_nil))) (mg_sub (me_ix rfl (me_var (pv 6)) me_int) me_int)) (mss_cons (ms_expr (me_lm rfl mm_append PySem.F.slot_list_append PySem.F.type_list_append mt_append (me_var (pv 6)) (ma_cons (me_fl ma_nil) ma_nil))) (mss_cons (ms_if (mt_w (mw_or (mt_cmp (op_neD hr.units) om_ne (me_fld (f := "rows") rfl (cx_Picture K A) rfl T.cl_Picture T.na_Picture_rows (me_var (pv 7))) (me_var (pv 4)) (nomark _)) (mw_or (mt_cmp (op_neD hr.units) om_ne (me_fld (f := "width") rfl (cx_Picture K A) rfl T.cl_Picture T.na_Picture_width (me_var (pv 7))) (me_var (pv 2)) (nomark _)) (mw_or (mt_cmp (op_neD hr.units) om_ne (me_fld (f := "height") rfl (cx_Picture K A) rfl T.cl_Picture T.na_Picture_height (me_var (pv 7))) (me_var (pv 3)) (nomark _)) (mw_or1 (mt_cmp (op_neD hr.units) om_ne (me_fld (f := "cursor") rfl (cx_Picture K A) rfl T.cl_Picture T.na_Picture_cursor (me_var (pv 7))) (me_var (pv 5)) (nomark _))))))) (mss_one (ms_ret me_bl)) mss_nil) (mss_cons (ms_if (mt_w (mw_or (mt_cmp op_notBl om_nib (me_fld (f := "visible") rfl (cx_Picture K A) rfl T.cl_Picture T.na_Picture_visible (me_var (pv 7))) me_bl (nomark _)) (mw_or1 (mt_not (mt_cmp (op_eqO (ok_Picture_eq T) (hr.mono (by decide)) T.m_Picture_eq.at_ T.m_Picture_eq.fn T.b_Picture_eq) (om_eqO rfl (cx_Picture K A) T.ow_Picture) (me_var (pv 7)) (me_make (cx_Picture K A) T.mk_Picture (ok_Picture_init T) (hr.mono (by decide)) rfl T.gc_Picture T.b_Picture_init rfl (ma_cons (me_var (pv 2)) (ma_cons (me_var (pv 3)) (ma_cons (me_var (pv 4)) (ma_cons (me_var (pv 5)) (ma_cons me_bl ma_nil)))))) (nomark _)))))) (mss_one (ms_ret me_bl)) mss_nil) (mss_cons (ms_setLc (i := 8) (ownP := [("_law_row_here", 16)]) (ct_name (i := 16) (by decide)) rfl sc_law.nd rfl rfl (sw_true rfl rfl rfl (by decide +kernel)) (mi_seq rfl (me_var (pv 4))) (blkOk_by (own := [("_law_row_here", 16)]) (N := ["_law_script", "_law_first", "_law_w", "_law_h", "_law_rows", "_law_cursor", "_law_handed", "_law_picture", "_law_others", "_law_count", "_law_k", "_law_x", "_law_r", "_law_c", "_law_other", "_law_actual", "_law_row_here"]) (sc := defScope s_law) (by decide +kernel)) (fun _ _ _ _ _ => pg_name (i := 16) sc_law.nd rfl (Or.inl rfl)) (fun _ _ _ _ _ => mts_nil) (fun _ _ _ _ _ => (me_callTy call_list_of cm_listL rfl T.n_list (by decide +kernel) (ma_cons (me_var (pv 16)) ma_nil)))) (mss_cons (ms_set (i := 9) sc_law.nd rfl (Or.inl rfl) me_int) (mss_cons (ms_for PassesOwn.never rfl (mi_range1 rfl T.n_range (ma_cons (me_op op_mod om_mod (me_call (ok__law_cell T) (hr.mono (by decide)) rfl T.g__law_cell T.F__law_cell.kp T.b__law_cell rfl (ma_cons (me_var (pv 0)) (ma_cons me_int ma_nil))) me_int) ma_nil)) (mg_name (i := 10) sc_law.nd rfl (Or.inl rfl)) (mss_cons (ms_set (i := 11) sc_law.nd rfl (Or.inl rfl) (me_call (ok__law_cell T) (hr.mono (by decide)) rfl T.g__law_cell T.F__law_cell.kp T.b__law_cell rfl (ma_cons (me_var (pv 0)) (ma_cons (me_op or_add om_add me_int (me_var (pv 10))) ma_nil)))) (mss_cons (ms_set (i := 12) sc_law.nd rfl (Or.inl rfl) (me_op op_mod om_mod (me_var (pv 11)) (me_var (pv 3)))) (mss_cons (ms_set (i := 13) sc_law.nd rfl (Or.inl rfl) (me_op op_mod om_mod (me_op op_fdiv om_fdiv (me_var (pv 11)) (me_var (pv 3))) (me_var (pv 2)))) (mss_cons (ms_if (mt_cmp (op_eqD hr.units) om_eq (me_ix rfl (me_ix rfl (me_var (pv 8)) (me_var (pv 12))) (me_var (pv 13))) (me_ix rfl (me_ix rfl (me_var (pv 4)) (me_var (pv 12))) (me_var (pv 13))) (nomark _)) (mss_one (ms_set (i := 9) sc_law.nd rfl (Or.inl rfl) (me_op or_add om_add (me_var (pv 9)) me_int))) mss_nil) (mss_one (ms_asg (me_tup (ma_cons (me_op or_add om_add me_int (me_var (pv 10))) (ma_cons (me_tup (ma_cons (me_neg me_int) (ma_cons (me_neg me_int) (ma_cons me_int ma_nil)))) ma_nil))) (mg_sub (me_ix rfl (me_var (pv 8)) (me_var (pv 12))) (me_var (pv 13)))))))))) (mss_cons (ms_set (i := 14) sc_law.nd rfl (Or.inl rfl) (me_make (cx_Picture K A) T.mk_Picture (ok_Picture_init T) (hr.mono (by decide)) rfl T.gc_Picture T.b_Picture_init rfl (ma_cons (me_var (pv 2)) (ma_cons (me_var (pv 3)) (ma_cons (me_var (pv 8)) (ma_cons (me_var (pv 5)) (ma_cons me_bl ma_nil))))))) (mss_cons (ms_set (i := 15) sc_law.nd rfl (Or.inl rfl) (me_call (ok_difference T) (hr.mono (by decide)) rfl T.g_difference T.F_difference.kp T.b_difference rfl (ma_cons (me_var (pv 7)) (ma_cons (me_var (pv 14)) ma_nil)))) (mss_cons (ms_if (mt_w (mw_or (mt_not (mt_truth rfl (me_call (ok__law_integer T) (hr.mono (by decide)) rfl T.g__law_integer T.F__law_integer.kp T.b__law_integer rfl (ma_cons (me_var (pv 15)) ma_nil)))) (mw_or (mt_cmp (op_neD hr.units) om_ne (me_var (pv 15)) (me_var (pv 9)) (nomark _)) (mw_or1 (mt_cmp (op_neD hr.units) om_ne (me_cmp (op_eqO (ok_Picture_eq T) (hr.mono (by decide)) T.m_Picture_eq.at_ T.m_Picture_eq.fn T.b_Picture_eq) (om_eqO rfl (cx_Picture K A) T.ow_Picture) (me_var (pv 7)) (me_var (pv 14)) (nomark _)) (me_cmp (op_eqD hr.units) om_eq (me_var (pv 9)) me_int (nomark _)) (nomark _)))))) (mss_one (ms_ret me_bl)) mss_nil) (mss_cons (ms_if (mt_w (mw_or (mt_cmp (op_eqO (ok_Picture_eq T) (hr.mono (by decide)) T.m_Picture_eq.at_ T.m_Picture_eq.fn T.b_Picture_eq) (om_eqO rfl (cx_Picture K A) T.ow_Picture) (me_var (pv 7)) (me_make (cx_Picture K A) T.mk_Picture (ok_Picture_init T) (hr.mono (by decide)) rfl T.gc_Picture T.b_Picture_init rfl (ma_cons (me_var (pv 2)) (ma_cons (me_var (pv 3)) (ma_cons (me_var (pv 4)) (ma_cons (me_tup (ma_cons (me_ix rfl (me_var (pv 5)) me_int) (ma_cons (me_op or_add om_add (me_ix rfl (me_var (pv 5)) me_int) me_int) ma_nil))) (ma_cons me_bl ma_nil)))))) (nomark _)) (mw_or1 (mt_cmp (op_eqO (ok_Picture_eq T) (hr.mono (by decide)) T.m_Picture_eq.at_ T.m_Picture_eq.fn T.b_Picture_eq) (om_eqO rfl (cx_Picture K A) T.ow_Picture) (me_var (pv 7)) (me_make (cx_Picture K A) T.mk_Picture (ok_Picture_init T) (hr.mono (by decide)) rfl T.gc_Picture T.b_Picture_init rfl (ma_cons (me_var (pv 2)) (ma_cons (me_var (pv 3)) (ma_cons (me_var (pv 4)) (ma_cons (me_var (pv 5)) (ma_cons me_bl ma_nil)))))) (nomark _))))) (mss_one (ms_ret me_bl)) mss_nil) (mss_cons (ms_if (mt_w (mw_or (mt_cmp (op_eqO (ok_Picture_eq T) (hr.mono (by decide)) T.m_Picture_eq.at_ T.m_Picture_eq.fn T.b_Picture_eq) (om_eqO rfl (cx_Picture K A) T.ow_Picture) (me_var (pv 7)) (me_make (cx_Picture K A) T.mk_Picture (ok_Picture_init T) (hr.mono (by decide)) rfl T.gc_Picture T.b_Picture_init rfl (ma_cons (me_op or_add om_add (me_var (pv 2)) me_int) (ma_cons (me_var (pv 3)) (ma_cons (me_var (pv 4)) (ma_cons (me_var (pv 5)) (ma_cons me_bl ma_nil)))))) (nomark _)) (mw_or1 (mt_cmp (op_eqO (ok_Picture_eq T) (hr.mono (by decide)) T.m_Picture_eq.at_ T.m_Picture_eq.fn T.b_Picture_eq) (om_eqO rfl (cx_Picture K A) T.ow_Picture) (me_var (pv 7)) (me_make (cx_Picture K A) T.mk_Picture (ok_Picture_init T) (hr.mono (by decide)) rfl T.gc_Picture T.b_Picture_init rfl (ma_cons (me_var (pv 2)) (ma_cons (me_op or_add om_add (me_var (pv 3)) me_int) (ma_cons (me_var (pv 4)) (ma_cons (me_var (pv 5)) (ma_cons me_bl ma_nil)))))) (nomark _))))) (mss_one (ms_ret me_bl)) mss_nil) (mss_one (ms_ret (me_and (me_not (me_cmp (op_eqO (ok_Picture_eq T) (hr.mono (by decide)) T.m_Picture_eq.at_ T.m_Picture_eq.fn T.b_Picture_eq) (om_eqO rfl (cx_Picture K A) T.ow_Picture) (me_var (pv 7)) (me_var (pv 4)) (nomark _))) (me_and (me_not (me_cmp (op_eqO (ok_Picture_eq T) (hr.mono (by decide)) T.m_Picture_eq.at_ T.m_Picture_eq.fn T.b_Picture_eq) (om_eqO rfl (cx_Picture K A) T.ow_Picture) (me_var (pv 7)) (me_var (pv 2)) (nomark _))) (me_one (me_cmp (op_eqD hr.units) om_eq (me_call (ok_difference T) (hr.mono (by decide)) rfl T.g_difference T.F_difference.kp T.b_difference rfl (ma_cons (me_var (pv 7)) (ma_cons (me_var (pv 7)) ma_nil))) me_int (nomark _))))))))))))))))))))))))))
theorem ok_law (T : Txt K mg A) : FnOk P w K mg base CX0 3 A.a_law A.fd_law ["_law_script"] (sp0 (cx K A) 1 d_law) := raw_law T
end
end Kp

namespace Kp
open PySem L2 ML
theorem all_mk {l : PySem.W.OpenLaw} {w : World} {K : PySem.W.Frag} {h : Heap} {mg : Str → Option Value} {fa : Addr} (X : K.In h) (G : h.Ns mainGlobals mg) (hfa : mg "law" = some (.ref fa))
  {f0 : Addr} {od0 an0 : Option Addr} {sl0 : Array (Option Value)} {oc0 kV0 dc0 pm0 cd0 ct0 : Value}
  {f1 : Addr} {od1 an1 : Option Addr} {sl1 : Array (Option Value)} {oc1 kV1 dc1 pm1 cd1 ct1 : Value}
  {f2 : Addr} {od2 an2 : Option Addr} {sl2 : Array (Option Value)} {oc2 kV2 dc2 pm2 cd2 ct2 : Value}
  {f3 : Addr} {od3 an3 : Option Addr} {sl3 : Array (Option Value)} {oc3 kV3 dc3 pm3 cd3 ct3 : Value}
  {f4 : Addr} {od4 an4 : Option Addr} {sl4 : Array (Option Value)} {oc4 kV4 dc4 pm4 cd4 ct4 : Value}
  {f5 : Addr} {od5 an5 : Option Addr} {sl5 : Array (Option Value)} {oc5 kV5 dc5 pm5 cd5 ct5 : Value}
  {f6 : Addr} {od6 an6 : Option Addr} {sl6 : Array (Option Value)} {oc6 kV6 dc6 pm6 cd6 ct6 : Value}
  {f7 : Addr} {od7 an7 : Option Addr} {sl7 : Array (Option Value)} {oc7 kV7 dc7 pm7 cd7 ct7 : Value}
  {CPicture : Addr}
  (aCPicture : PySem.W.nsIn K mainGlobals "Picture" = some (some (.ref CPicture)))
  (a0 : PySem.W.findIn K (.ref CPicture) "__eq__" = some (some (.ref f0)))
  (i0 : PySem.W.isFn K (.ref f0) = true)
  (l0 : K.lookup f0 = some ⟨oc0, od0, .func (PySem.W.fnOf "__eq__" "Picture.__eq__" (defArgs s_Picture_eq) (defBody s_Picture_eq) (defScope s_Picture_eq) .none kV0 dc0 pm0 an0 cd0 ct0), sl0⟩)
  (c0 : PySem.W.codeIn K cd0 "Picture.__eq__" = true)
  (k0 : PySem.W.keepIn K (.ref f0) = true)
  (a1 : PySem.W.findIn K (.ref CPicture) "__init__" = some (some (.ref f1)))
  (i1 : PySem.W.isFn K (.ref f1) = true)
  (l1 : K.lookup f1 = some ⟨oc1, od1, .func (PySem.W.fnOf "__init__" "Picture.__init__" (defArgs s_Picture_init) (defBody s_Picture_init) (defScope s_Picture_init) .none kV1 dc1 pm1 an1 cd1 ct1), sl1⟩)
  (c1 : PySem.W.codeIn K cd1 "Picture.__init__" = true)
  (k1 : PySem.W.keepIn K (.ref f1) = true)
  (a2 : PySem.W.nsIn K mainGlobals "_law_cell" = some (some (.ref f2)))
  (l2 : K.lookup f2 = some ⟨oc2, od2, .func (PySem.W.fnOf "_law_cell" "_law_cell" (defArgs s__law_cell) (defBody s__law_cell) (defScope s__law_cell) .none kV2 dc2 pm2 an2 cd2 ct2), sl2⟩)
  (c2 : PySem.W.codeIn K cd2 "_law_cell" = true)
  (k2 : PySem.W.keepIn K (.ref f2) = true)
  (a3 : PySem.W.nsIn K mainGlobals "_law_row" = some (some (.ref f3)))
  (l3 : K.lookup f3 = some ⟨oc3, od3, .func (PySem.W.fnOf "_law_row" "_law_row" (defArgs s__law_row) (defBody s__law_row) (defScope s__law_row) .none kV3 dc3 pm3 an3 cd3 ct3), sl3⟩)
  (c3 : PySem.W.codeIn K cd3 "_law_row" = true)
  (k3 : PySem.W.keepIn K (.ref f3) = true)
  (a4 : PySem.W.nsIn K mainGlobals "_law_cells" = some (some (.ref f4)))
  (l4 : K.lookup f4 = some ⟨oc4, od4, .func (PySem.W.fnOf "_law_cells" "_law_cells" (defArgs s__law_cells) (defBody s__law_cells) (defScope s__law_cells) .none kV4 dc4 pm4 an4 cd4 ct4), sl4⟩)
  (c4 : PySem.W.codeIn K cd4 "_law_cells" = true)
  (k4 : PySem.W.keepIn K (.ref f4) = true)
  (a5 : PySem.W.nsIn K mainGlobals "_law_integer" = some (some (.ref f5)))
  (l5 : K.lookup f5 = some ⟨oc5, od5, .func (PySem.W.fnOf "_law_integer" "_law_integer" (defArgs s__law_integer) (defBody s__law_integer) (defScope s__law_integer) .none kV5 dc5 pm5 an5 cd5 ct5), sl5⟩)
  (c5 : PySem.W.codeIn K cd5 "_law_integer" = true)
  (k5 : PySem.W.keepIn K (.ref f5) = true)
  (a6 : PySem.W.nsIn K mainGlobals "difference" = some (some (.ref f6)))
  (l6 : K.lookup f6 = some ⟨oc6, od6, .func (PySem.W.fnOf "difference" "difference" (defArgs s_difference) (defBody s_difference) (defScope s_difference) .none kV6 dc6 pm6 an6 cd6 ct6), sl6⟩)
  (c6 : PySem.W.codeIn K cd6 "difference" = true)
  (k6 : PySem.W.keepIn K (.ref f6) = true)
  (a7 : PySem.W.nsIn K mainGlobals "law" = some (some (.ref f7)))
  (l7 : K.lookup f7 = some ⟨oc7, od7, .func (PySem.W.fnOf "law" "law" (defArgs s_law) (defBody s_law) (defScope s_law) .none kV7 dc7 pm7 an7 cd7 ct7), sl7⟩)
  (c7 : PySem.W.codeIn K cd7 "law" = true)
  (k7 : PySem.W.keepIn K (.ref f7) = true)
  (pgPicture : PySem.W.plainGet K CPicture Str.empty = true)
  (hdPicture : PySem.W.hasDictIn K CPicture = true)
  (poPicture : PySem.W.plainOver K CPicture = true)
  (saPicture : PySem.W.findIn K (.ref CPicture) "__setattr__" = some (some (.builtin "object.__setattr__")))
  (mkPicture : PySem.W.makesIn K CPicture = true)
  (kcPicture : PySem.W.keepIn K (.ref CPicture) = true)
  (nPicture_width : PySem.W.findIn K (.ref CPicture) "width" = some none)
  (nPicture_height : PySem.W.findIn K (.ref CPicture) "height" = some none)
  (nPicture_rows : PySem.W.findIn K (.ref CPicture) "rows" = some none)
  (nPicture_cursor : PySem.W.findIn K (.ref CPicture) "cursor" = some none)
  (nPicture_visible : PySem.W.findIn K (.ref CPicture) "visible" = some none)
  (oha_Picture : PySem.W.findIn K (.ref CPicture) "__class__" = some (some (.builtin "object.__class__")))
  (ohn_Picture : PySem.W.specialIn K (.builtin "object.__class__") "__get__" = some (some (.builtin "getset_descriptor.__get__")))
  (otk_Picture : PySem.W.takesIn K (.builtin "object.__class__") = some true)
  (omr_Picture : PySem.W.mroIn K CPicture (.type "object") = some true)
  (oci_Picture : PySem.W.isClsIn K CPicture = true)
  (oti_Picture : PySem.W.typeIn K (.ref CPicture) = some (.type "type"))
  (os0_Picture : PySem.W.subIn K (.type "NoneType") (.ref CPicture) = some false)
  (os1_Picture : PySem.W.subIn K (.type "bool") (.ref CPicture) = some false)
  (os2_Picture : PySem.W.subIn K (.type "int") (.ref CPicture) = some false)
  (os3_Picture : PySem.W.subIn K (.type "str") (.ref CPicture) = some false)
  (os4_Picture : PySem.W.subIn K (.type "tuple") (.ref CPicture) = some false)
  (os5_Picture : PySem.W.subIn K (.type "list") (.ref CPicture) = some false)
  (z_abs : PySem.W.nsIn K mainGlobals "abs" = some none)
  (z_bool : PySem.W.nsIn K mainGlobals "bool" = some none)
  (z_int : PySem.W.nsIn K mainGlobals "int" = some none)
  (z_isinstance : PySem.W.nsIn K mainGlobals "isinstance" = some none)
  (z_len : PySem.W.nsIn K mainGlobals "len" = some none)
  (z_list : PySem.W.nsIn K mainGlobals "list" = some none)
  (z_range : PySem.W.nsIn K mainGlobals "range" = some none)
  (z_zip : PySem.W.nsIn K mainGlobals "zip" = some none) :
  ∃ fd : FuncData, (∀ (s : Shared) (v : Value), BindsTo s fd ⟨[v], []⟩ [("_law_script", v)]) ∧ ∀ base : Heap, K.In base → base.Ns mainGlobals mg → FnOk l.prog w K mg base CX0 3 fa fd ["_law_script"] (spLaw K) := by
  have e := hfa.symm.trans (PySem.W.mg_of X G a7)
  cases e
  have T : Txt K mg ⟨f0, (PySem.W.fnOf "__eq__" "Picture.__eq__" (defArgs s_Picture_eq) (defBody s_Picture_eq) (defScope s_Picture_eq) .none kV0 dc0 pm0 an0 cd0 ct0), f1, (PySem.W.fnOf "__init__" "Picture.__init__" (defArgs s_Picture_init) (defBody s_Picture_init) (defScope s_Picture_init) .none kV1 dc1 pm1 an1 cd1 ct1), f2, (PySem.W.fnOf "_law_cell" "_law_cell" (defArgs s__law_cell) (defBody s__law_cell) (defScope s__law_cell) .none kV2 dc2 pm2 an2 cd2 ct2), f3, (PySem.W.fnOf "_law_row" "_law_row" (defArgs s__law_row) (defBody s__law_row) (defScope s__law_row) .none kV3 dc3 pm3 an3 cd3 ct3), f4, (PySem.W.fnOf "_law_cells" "_law_cells" (defArgs s__law_cells) (defBody s__law_cells) (defScope s__law_cells) .none kV4 dc4 pm4 an4 cd4 ct4), f5, (PySem.W.fnOf "_law_integer" "_law_integer" (defArgs s__law_integer) (defBody s__law_integer) (defScope s__law_integer) .none kV5 dc5 pm5 an5 cd5 ct5), f6, (PySem.W.fnOf "difference" "difference" (defArgs s_difference) (defBody s_difference) (defScope s_difference) .none kV6 dc6 pm6 an6 cd6 ct6), fa, (PySem.W.fnOf "law" "law" (defArgs s_law) (defBody s_law) (defScope s_law) .none kV7 dc7 pm7 an7 cd7 ct7), CPicture⟩ :=
    ⟨fun_mk (st := s_Picture_eq) l0 c0 k0,
     (fun_mk (st := s_Picture_eq) l0 c0 k0).binds (ps := ["self", "other"]) fun _ _ _ _ _ _ us hl => match us, hl with | [_, _], _ => rfl,
     ⟨a0, i0, k0⟩,
     fun_mk (st := s_Picture_init) l1 c1 k1,
     (fun_mk (st := s_Picture_init) l1 c1 k1).binds (ps := ["self", "width", "height", "rows", "cursor", "visible"]) fun _ _ _ _ _ _ us hl => match us, hl with | [_, _, _, _, _, _], _ => rfl,
     ⟨mkPicture, a1, i1, kcPicture⟩,
     fun_mk (st := s__law_cell) l2 c2 k2,
     (fun_mk (st := s__law_cell) l2 c2 k2).binds (ps := ["_law_script", "_law_k"]) fun _ _ _ _ _ _ us hl => match us, hl with | [_, _], _ => rfl,
     PySem.W.mg_of X G a2,
     fun_mk (st := s__law_row) l3 c3 k3,
     (fun_mk (st := s__law_row) l3 c3 k3).binds (ps := ["_law_cell_here", "_law_count", "_law_bound"]) fun _ _ _ _ _ _ us hl => match us, hl with | [_, _, _], _ => rfl,
     PySem.W.mg_of X G a3,
     fun_mk (st := s__law_cells) l4 c4 k4,
     (fun_mk (st := s__law_cells) l4 c4 k4).binds (ps := ["_law_cell_here", "_law_w", "_law_h"]) fun _ _ _ _ _ _ us hl => match us, hl with | [_, _, _], _ => rfl,
     PySem.W.mg_of X G a4,
     fun_mk (st := s__law_integer) l5 c5 k5,
     (fun_mk (st := s__law_integer) l5 c5 k5).binds (ps := ["_law_value"]) fun _ _ _ _ _ _ us hl => match us, hl with | [_], _ => rfl,
     PySem.W.mg_of X G a5,
     fun_mk (st := s_difference) l6 c6 k6,
     (fun_mk (st := s_difference) l6 c6 k6).binds (ps := ["first", "second"]) fun _ _ _ _ _ _ us hl => match us, hl with | [_, _], _ => rfl,
     PySem.W.mg_of X G a6,
     fun_mk (st := s_law) l7 c7 k7,
     (fun_mk (st := s_law) l7 c7 k7).binds (ps := ["_law_script"]) fun _ _ _ _ _ _ us hl => match us, hl with | [_], _ => rfl,
     PySem.W.mg_of X G a7,
     ⟨pgPicture, hdPicture, poPicture, saPicture⟩,
     PySem.W.mg_of X G aCPicture,
     nPicture_width,
     nPicture_height,
     nPicture_rows,
     nPicture_cursor,
     nPicture_visible,
     ⟨⟨pgPicture, hdPicture, poPicture, saPicture⟩, oha_Picture, ohn_Picture, otk_Picture, omr_Picture, oci_Picture, oti_Picture, os0_Picture, os1_Picture, os2_Picture, os3_Picture, os4_Picture, os5_Picture⟩,
     PySem.W.mg_none_of X G z_abs,
     PySem.W.mg_none_of X G z_bool,
     PySem.W.mg_none_of X G z_int,
     PySem.W.mg_none_of X G z_isinstance,
     PySem.W.mg_none_of X G z_len,
     PySem.W.mg_none_of X G z_list,
     PySem.W.mg_none_of X G z_range,
     PySem.W.mg_none_of X G z_zip⟩
  exact ⟨_, fun s v => .of_eq rfl, fun base _ _ => law_ok (C := cx K _) rfl (ok_law T) law_true⟩
theorem walk {l : PySem.W.OpenLaw} {q : Program} {loose : List Str} {XP : (Str → Option Value) → Heap → Prop} {YP : World → Heap → Prop} {d : DefRec} {K : Params → PySem.W.Frag} (hn : l.most = some 63) (hdf : d.params.defaults = [])
    (hY : ∀ (w : World) (h : Heap), YP w h → (K w.params).In h) (F : ∀ (w : World) (mg : Str → Option Value) (fa : Addr) (h : Heap), (K w.params).In h → h.Ns mainGlobals mg → mg d.name = some (.ref fa) →
      ∃ fd : FuncData, (∀ (s : Shared) (u : Value), BindsTo s fd ⟨[u], []⟩ [("_law_script", u)]) ∧ ∀ base : Heap, (K w.params).In base → base.Ns mainGlobals mg → FnOk l.prog w (K w.params) mg base CX0 3 fa fd ["_law_script"] (spLaw (K w.params))) :
    PySem.W.WalkO q loose XP YP l.row.toRowW d [] (fun f vs => PySem.call f vs) :=
  L2.walk_of (n := 63) (k := 3) (x := "_law_script") (CX := fun _ => CX0) (sp := fun w => spLaw (K w.params)) hn (by decide) hdf ⟨rfl, by decide, by decide⟩ hY F (fun _ _ a ns hl _ hS => ⟨a, ns, rfl, hS, hl, fun _ => rfl⟩) fun _ _ _ _ _ z => z
end Kp
open PySem PySem.W PyProof.Rows in
set_option maxRecDepth 100000 in
set_option maxHeartbeats 0 in
theorem PySem.Challenge.cw_manypanes_k16_pictures_and_their_differe_holds : PySem.Challenge.rw_manypanes_k16_pictures_and_their_differe.Holds := by
  w_on; o_law; k_head; (case hw => w_witness2)
  k_fill
  refine Kp.walk (l := PySem.Challenge.rw_manypanes_k16_pictures_and_their_differe) rfl rfl (fun w h Y => PySem.W.kIn_of Y) ?F
  case F =>
    intro w mg fa h KX G hmg
    refine' Kp.all_mk KX G hmg ?aCPicture ?a0 ?i0 ?l0 ?c0 ?k0 ?a1 ?i1 ?l1 ?c1 ?k1 ?a2 ?l2 ?c2 ?k2 ?a3 ?l3 ?c3 ?k3 ?a4 ?l4 ?c4 ?k4 ?a5 ?l5 ?c5 ?k5 ?a6 ?l6 ?c6 ?k6 ?a7 ?l7 ?c7 ?k7 ?pgPicture ?hdPicture ?poPicture ?saPicture ?mkPicture ?kcPicture ?nPicture_width ?nPicture_height ?nPicture_rows ?nPicture_cursor ?nPicture_visible ?oha_Picture ?ohn_Picture ?otk_Picture ?omr_Picture ?oci_Picture ?oti_Picture ?os0_Picture ?os1_Picture ?os2_Picture ?os3_Picture ?os4_Picture ?os5_Picture ?z_abs ?z_bool ?z_int ?z_isinstance ?z_len ?z_list ?z_range ?z_zip
    (case aCPicture => k_is)
    (case a0 => k_is)
    (case i0 => k_is)
    (case l0 => k_is)
    (case c0 => k_is)
    (case k0 => k_is)
    (case a1 => k_is)
    (case i1 => k_is)
    (case l1 => k_is)
    (case c1 => k_is)
    (case k1 => k_is)
    (case a2 => k_is)
    (case l2 => k_is)
    (case c2 => k_is)
    (case k2 => k_is)
    (case a3 => k_is)
    (case l3 => k_is)
    (case c3 => k_is)
    (case k3 => k_is)
    (case a4 => k_is)
    (case l4 => k_is)
    (case c4 => k_is)
    (case k4 => k_is)
    (case a5 => k_is)
    (case l5 => k_is)
    (case c5 => k_is)
    (case k5 => k_is)
    (case a6 => k_is)
    (case l6 => k_is)
    (case c6 => k_is)
    (case k6 => k_is)
    (case a7 => k_is)
    (case l7 => k_is)
    (case c7 => k_is)
    (case k7 => k_is)
    (case pgPicture => k_is)
    (case hdPicture => k_is)
    (case poPicture => k_is)
    (case saPicture => k_is)
    (case mkPicture => k_is)
    (case kcPicture => k_is)
    (case nPicture_width => k_is)
    (case nPicture_height => k_is)
    (case nPicture_rows => k_is)
    (case nPicture_cursor => k_is)
    (case nPicture_visible => k_is)
    (case oha_Picture => k_is)
    (case ohn_Picture => k_is)
    (case otk_Picture => k_is)
    (case omr_Picture => k_is)
    (case oci_Picture => k_is)
    (case oti_Picture => k_is)
    (case os0_Picture => k_is)
    (case os1_Picture => k_is)
    (case os2_Picture => k_is)
    (case os3_Picture => k_is)
    (case os4_Picture => k_is)
    (case os5_Picture => k_is)
    (case z_abs => k_is)
    (case z_bool => k_is)
    (case z_int => k_is)
    (case z_isinstance => k_is)
    (case z_len => k_is)
    (case z_list => k_is)
    (case z_range => k_is)
    (case z_zip => k_is)

