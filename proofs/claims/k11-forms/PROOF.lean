import PyProof.Rows.All
import Wide.All
import OpenK.AllK
import Wide.FinOn
import HandS.ForMost
import HandS.Walk
import HandS.Evl
import HandS.Exc
import HandS.HeadHook1
import HandS.IsInst
import HandS.Style
import HandS.TupAny
import PyProof.NeKinds
import PyProof.P3Eq
import HandS.Conv
import HandS.RaiseMore
import PyProof.ReprRoads
import HandS.Iter
import HandS.Zip
import KE.GoesEnum
import HandS.Flow
import HandS.Text
import HandS.Codes
import HandS.Ends
import HandS.Defaults
import HandS.HeadHook2
import HandS.Head0
import HandS.Head1
import HandS.Head2
import HandS.Words
import PySem.Challenge.RW_noteskept_k11_forms_of_accounts
set_option Elab.async false
set_option linter.all false
set_option maxRecDepth 100000
set_option maxHeartbeats 2000000
/-! M1: plain data, what it looks like in the abstract heap, slots -/
namespace Mi
open PySem L2

/-- plain data -/
inductive D where
  | non | bl (b : Bool) | int (i : Int) | str (s : List Nat) | lst (xs : List D) | tup (xs : List D) | dct (kvs : List (D × D)) | frz (xs : List D) | ref (l : Nat)

/-- the written part, and the addresses that may be written -/
structure RC where
  K : PySem.W.Frag
  M : Addr → Prop

def LsAt (R : RC) (H : Hp) (a : Addr) (xs : List V) : Prop := H a = some (.lst xs) ∧ ¬ R.M a
/-- a list that is known to the object, read and never written -/
def FzAt (R : RC) (H : Hp) (a : Addr) (xs : List V) : Prop := ((∃ o, H a = some (.frz o (.lst xs))) ∧ ¬ R.M a) ∨ SqL R.K (fun _ => none) a xs
def DcAt (R : RC) (H : Hp) (a : Addr) (kvs : List (Key × V)) : Prop := H a = some (.dK kvs) ∧ ¬ R.M a
def TpAt (R : RC) (H : Hp) (a : Addr) (xs : List V) : Prop := (Rd H a (.tup xs) ∧ ¬ R.M a) ∨ SqT R.K (fun _ => none) a xs
theorem LsAt.sq {R : RC} {H : Hp} {a : Addr} {xs : List V} (h : LsAt R H a xs) : SqL R.K H a xs := .inl (.inl h.1)
theorem FzAt.sq {R : RC} {H : Hp} {a : Addr} {xs : List V} (h : FzAt R H a xs) : SqL R.K H a xs := by
  rcases h with ⟨h, _⟩ | h | h
  · exact .inl (.inr h)
  · rcases h with h | ⟨_, h⟩ <;> cases h
  · exact .inr h
theorem TpAt.sq {R : RC} {H : Hp} {a : Addr} {xs : List V} (h : TpAt R H a xs) : SqT R.K H a xs := by
  rcases h with ⟨h, _⟩ | h | h
  · exact .inl h
  · rcases h with h | ⟨_, h⟩ <;> cases h
  · exact .inr h

mutual
inductive DR (R : RC) (H : Hp) : D → V → Prop
  | non : DR R H .non .non
  | bl (b : Bool) : DR R H (.bl b) (.bl b)
  | int (i : Int) : DR R H (.int i) (.int i)
  | str (s : List Nat) : DR R H (.str s) (.str ⟨s.toArray⟩)
  | lst {a : Addr} {xs : List V} {ds : List D} : LsAt R H a xs → DRs R H ds xs → DR R H (.lst ds) (.ref a)
  | tup {a : Addr} {xs : List V} {ds : List D} : TpAt R H a xs → DRs R H ds xs → DR R H (.tup ds) (.ref a)
  | frz {a : Addr} {xs : List V} {ds : List D} : FzAt R H a xs → DRs R H ds xs → DR R H (.frz ds) (.ref a)
  | dct {a : Addr} {kvs : List (Key × V)} {ds : List (D × D)} : DcAt R H a kvs → DRs R H (ds.map (·.1)) (kvs.map fun p => kV p.1) → DRs R H (ds.map (·.2)) (kvs.map (·.2)) → DR R H (.dct ds) (.ref a)
inductive DRs (R : RC) (H : Hp) : List D → List V → Prop
  | nil : DRs R H [] []
  | cons {d : D} {v : V} {ds : List D} {vs : List V} : DR R H d v → DRs R H ds vs → DRs R H (d :: ds) (v :: vs)
end

/-- all that is tracked outside O stays -/
def Keep (O : Addr → Prop) (H H' : Hp) : Prop := ∀ a o, H a = some o → ¬ O a → H' a = some o
theorem Keep.refl {O : Addr → Prop} {H : Hp} : Keep O H H := fun _ _ h _ => h
theorem Keep.of_ex {O : Addr → Prop} {H H' : Hp} (e : Evl.Ex H H') : Keep O H H' := fun a o h _ => e a o h
theorem Keep.trans {O O1 : Addr → Prop} {H H1 H2 : Hp} (a : Keep O H H1) (b : Keep O1 H1 H2) (s : ∀ x, O1 x → O x ∨ H x = none) : Keep O H H2 := fun x o h n =>
  b x o (a x o h n) fun z => (s x z).elim n fun q => by rw [h] at q; cases q
theorem Keep.mono {O O1 : Addr → Prop} {H H1 : Hp} (a : Keep O H H1) (s : ∀ x, O x → O1 x) : Keep O1 H H1 := fun x o h n => a x o h fun z => n (s x z)

/-- from one context to a later one -/
structure To (R : RC) (H : Hp) (R' : RC) (H' : Hp) : Prop where
  k : R'.K = R.K
  m : ∀ a, R'.M a → R.M a ∨ H a = none
  h : Keep R.M H H'
theorem To.refl {R : RC} {H : Hp} : To R H R H := ⟨rfl, fun _ h => .inl h, Keep.refl⟩
theorem rd_some {H : Hp} {a : Addr} {u : HO} (h : Rd H a u) : ∃ o, H a = some o := by
  rcases h with h | ⟨o, h⟩
  · exact ⟨_, h⟩
  · exact ⟨_, h⟩
theorem Rd.to {R R' : RC} {H H' : Hp} {a : Addr} {u : HO} (t : To R H R' H') (h : Rd H a u) (n : ¬ R.M a) : Rd H' a u ∧ ¬ R'.M a := by
  refine ⟨?_, fun z => ?_⟩
  · rcases h with h | ⟨o, h⟩
    · exact .inl (t.h _ _ h n)
    · exact .inr ⟨o, t.h _ _ h n⟩
  · obtain ⟨o, e⟩ := rd_some h
    rcases t.m a z with q | q
    · exact n q
    · rw [e] at q; cases q
theorem LsAt.to {R R' : RC} {H H' : Hp} {a : Addr} {xs : List V} (t : To R H R' H') (h : LsAt R H a xs) : LsAt R' H' a xs :=
  ⟨t.h _ _ h.1 h.2, (Rd.to t (.inl h.1) h.2).2⟩
theorem DcAt.to {R R' : RC} {H H' : Hp} {a : Addr} {xs : List (Key × V)} (t : To R H R' H') (h : DcAt R H a xs) : DcAt R' H' a xs :=
  ⟨t.h _ _ h.1 h.2, (Rd.to t (.inl h.1) h.2).2⟩
theorem FzAt.to {R R' : RC} {H H' : Hp} {a : Addr} {xs : List V} (t : To R H R' H') (h : FzAt R H a xs) : FzAt R' H' a xs := by
  rcases h with ⟨⟨o, h⟩, n⟩ | h
  · exact .inl ⟨⟨o, t.h _ _ h n⟩, (Rd.to t (.inl h) n).2⟩
  · exact .inr (by rw [t.k]; exact h)
theorem TpAt.to {R R' : RC} {H H' : Hp} {a : Addr} {xs : List V} (t : To R H R' H') (h : TpAt R H a xs) : TpAt R' H' a xs := by
  rcases h with ⟨h, n⟩ | h
  · exact .inl (Rd.to t h n)
  · exact .inr (by rw [t.k]; exact h)
mutual
theorem DR.to {R R' : RC} {H H' : Hp} (t : To R H R' H') : ∀ {d : D} {v : V}, DR R H d v → DR R' H' d v
  | .non, _, .non => .non
  | .bl _, _, .bl b => .bl b
  | .int _, _, .int i => .int i
  | .str _, _, .str s => .str s
  | .lst _, _, .lst h1 h2 => .lst (h1.to t) (DRs.to t h2)
  | .tup _, _, .tup h1 h2 => .tup (h1.to t) (DRs.to t h2)
  | .frz _, _, .frz h1 h2 => .frz (h1.to t) (DRs.to t h2)
  | .dct _, _, .dct h1 h2 h3 => .dct (h1.to t) (DRs.to t h2) (DRs.to t h3)
theorem DRs.to {R R' : RC} {H H' : Hp} (t : To R H R' H') : ∀ {ds : List D} {vs : List V}, DRs R H ds vs → DRs R' H' ds vs
  | [], _, .nil => .nil
  | _ :: _, _, .cons h1 h2 => .cons (DR.to t h1) (DRs.to t h2)
end
theorem To.trans {R R1 R2 : RC} {H H1 H2 : Hp} (a : To R H R1 H1) (b : To R1 H1 R2 H2) (hn : ∀ x, H1 x = none → H x = none) : To R H R2 H2 := by
  refine ⟨b.k.trans a.k, fun x h => ?_, Keep.trans a.h b.h fun x h => a.m x h⟩
  rcases b.m x h with q | q
  · exact a.m x q
  · exact .inr (hn x q)
theorem DRs.len {R : RC} {H : Hp} : ∀ {ds : List D} {vs : List V}, DRs R H ds vs → ds.length = vs.length
  | _, _, .nil => rfl
  | _, _, .cons _ h => by simp [DRs.len h]
theorem DRs.get {R : RC} {H : Hp} : ∀ {ds : List D} {vs : List V} {i : Nat} {d : D}, DRs R H ds vs → ds[i]? = some d → ∃ v, vs[i]? = some v ∧ DR R H d v
  | _, _, _, _, .nil, e => by simp at e
  | _, _, 0, _, .cons r _, e => by
    simp at e; subst e; exact ⟨_, rfl, r⟩
  | _, _, i + 1, d, .cons _ t, e => by
    obtain ⟨v, h1, h2⟩ := DRs.get (i := i) (d := d) t (by simpa using e)
    exact ⟨v, by simpa using h1, h2⟩
theorem DRs.getV {R : RC} {H : Hp} : ∀ {ds : List D} {vs : List V} {i : Nat} {v : V}, DRs R H ds vs → vs[i]? = some v → ∃ d, ds[i]? = some d ∧ DR R H d v
  | _, _, _, _, .nil, e => by simp at e
  | _, _, 0, _, .cons r _, e => by
    simp at e; subst e; exact ⟨_, rfl, r⟩
  | _, _, i + 1, v, .cons _ t, e => by
    obtain ⟨d, h1, h2⟩ := DRs.getV (i := i) (v := v) t (by simpa using e)
    exact ⟨d, by simpa using h1, h2⟩
theorem DRs.append {R : RC} {H : Hp} : ∀ {ds es : List D} {vs ws : List V}, DRs R H ds vs → DRs R H es ws → DRs R H (ds ++ es) (vs ++ ws)
  | _, _, _, _, .nil, s => s
  | _, _, _, _, .cons r t, s => .cons r (DRs.append t s)
theorem DRs.take {R : RC} {H : Hp} : ∀ {ds : List D} {vs : List V} (n : Nat), DRs R H ds vs → DRs R H (ds.take n) (vs.take n)
  | _, _, 0, _ => .nil
  | _, _, _ + 1, .nil => .nil
  | _, _, n + 1, .cons r t => .cons r (DRs.take n t)
theorem DRs.drop {R : RC} {H : Hp} : ∀ {ds : List D} {vs : List V} (n : Nat), DRs R H ds vs → DRs R H (ds.drop n) (vs.drop n)
  | _, _, 0, r => r
  | _, _, _ + 1, .nil => .nil
  | _, _, n + 1, .cons _ t => DRs.drop n t
theorem DRs.set {R : RC} {H : Hp} {d : D} {v : V} (r : DR R H d v) : ∀ {ds : List D} {vs : List V} (i : Nat), DRs R H ds vs → DRs R H (ds.set i d) (vs.set i v)
  | _, _, _, .nil => .nil
  | _, _, 0, .cons _ t => .cons r t
  | _, _, i + 1, .cons q t => .cons q (DRs.set r i t)
theorem DRs.reverse {R : RC} {H : Hp} {ds : List D} {vs : List V} (h : DRs R H ds vs) : DRs R H ds.reverse vs.reverse := by
  induction ds generalizing vs with
  | nil => cases h; exact .nil
  | cons d ds ih =>
    cases h with
    | cons r t =>
      rw [List.reverse_cons, List.reverse_cons]
      exact (ih t).append (.cons r .nil)

/-- what a container of one's own holds -/
inductive Ow where
  | lst (xs : List D) | dct (kvs : List (D × D))
def Ow.toD : Ow → D
  | .lst xs => .lst xs
  | .dct kvs => .dct kvs
/-- a slot: empty; plain data; a container of one's own (l: lent by the caller) -/
inductive Sl where
  | no | v (d : D) | own (l : Bool) (o : Ow)
abbrev En := List Sl

def OwR (R : RC) (H : Hp) : Ow → Addr → Prop
  | .lst ds, a => R.M a ∧ ∃ xs, H a = some (.lst xs) ∧ DRs R H ds xs
  | .dct ds, a => R.M a ∧ ∃ kvs, H a = some (.dK kvs) ∧ DRs R H (ds.map (·.1)) (kvs.map fun p => kV p.1) ∧ DRs R H (ds.map (·.2)) (kvs.map (·.2))
theorem OwR.m {R : RC} {H : Hp} {o : Ow} {a : Addr} (h : OwR R H o a) : R.M a := by
  cases o with
  | lst ds => exact h.1
  | dct kvs => exact h.1
/-- the same in a later context, where it stands as it was -/
theorem OwR.to {R R' : RC} {H H' : Hp} (t : To R H R' H') {o : Ow} {a : Addr} (h : OwR R H o a) (m : R'.M a) (e : H' a = H a) : OwR R' H' o a := by
  cases o with
  | lst ds =>
    obtain ⟨h1, xs, h2, h3⟩ := h
    exact ⟨m, xs, e.trans h2, h3.to t⟩
  | dct ds =>
    obtain ⟨h1, kvs, h2, h3, h4⟩ := h
    exact ⟨m, kvs, e.trans h2, h3.to t, h4.to t⟩
/-- it becomes plain data -/
theorem OwR.dr {R : RC} {H : Hp} {o : Ow} {a : Addr} (h : OwR R H o a) {R' : RC} (t : To R H R' H) (n : ¬ R'.M a) : DR R' H (match o with | .lst xs => .lst xs | .dct kvs => .dct kvs) (.ref a) := by
  cases o with
  | lst ds =>
    obtain ⟨h1, xs, h2, h3⟩ := h
    exact .lst ⟨h2, n⟩ (h3.to t)
  | dct ds =>
    obtain ⟨h1, kvs, h2, h3, h4⟩ := h
    exact .dct ⟨h2, n⟩ (h3.to t) (h4.to t)
def SlR (R : RC) (H : Hp) : Sl → Option V → Prop
  | .no, _ => True
  | .v d, y => ∃ x, y = some x ∧ DR R H d x
  | .own _ o, y => ∃ a, y = some (.ref a) ∧ OwR R H o a

/-- an address that a slot owns -/
def Owns (ρ : En) (σ : St) (a : Addr) : Prop := ∃ (i : Nat) (l : Bool) (o : Ow), ρ[i]? = some (.own l o) ∧ σ[i]? = some (some (.ref a))

/-- the slots as they stand -/
structure EnR (R : RC) (H : Hp) (ρ : En) (σ : St) : Prop where
  len : ρ.length = σ.length
  sl : ∀ (i : Nat) (s : Sl), ρ[i]? = some s → ∃ y, σ[i]? = some y ∧ SlR R H s y
  ap : ∀ (i j : Nat) (l m : Bool) (o u : Ow), i ≠ j → ρ[i]? = some (.own l o) → ρ[j]? = some (.own m u) → σ[i]? ≠ σ[j]?
  tr : ∀ a, R.M a → ∃ o, H a = some o
theorem EnR.own_m {R : RC} {H : Hp} {ρ : En} {σ : St} (e : EnR R H ρ σ) {a : Addr} (h : Owns ρ σ a) : R.M a := by
  obtain ⟨i, l, o, h1, h2⟩ := h
  obtain ⟨y, h3, a', h4, h5⟩ := e.sl i _ h1
  rw [h2] at h3
  cases h3
  cases h4
  exact h5.m
theorem EnR.fresh {R : RC} {H : Hp} {ρ : En} {σ : St} (e : EnR R H ρ σ) {a : Addr} (h : H a = none) : ¬ R.M a := fun z => by
  obtain ⟨o, q⟩ := e.tr a z
  rw [h] at q; cases q

/-- behind an expression -/
structure Nx (R : RC) (ρ : En) (σ : St) (H : Hp) (R' : RC) (ρ' : En) (H' : Hp) : Prop where
  en : EnR R' H' ρ' σ
  k : R'.K = R.K
  m : ∀ a, R'.M a → R.M a
  cov : ∀ a, R.M a → R'.M a ∨ Owns ρ σ a
  h : Keep (Owns ρ σ) H H'
  own : ∀ (i : Nat) (l : Bool) (o : Ow), ρ'[i]? = some (.own l o) → ∃ u, ρ[i]? = some (.own l u)
  al : ∀ a o, H a = some o → ∃ u, H' a = some u
theorem Nx.owns {R R' : RC} {ρ ρ' : En} {σ : St} {H H' : Hp} (n : Nx R ρ σ H R' ρ' H') {a : Addr} (h : Owns ρ' σ a) : Owns ρ σ a := by
  obtain ⟨i, l, o, h1, h2⟩ := h
  obtain ⟨u, h3⟩ := n.own i l o h1
  exact ⟨i, l, u, h3, h2⟩
theorem Nx.trans {R R1 R2 : RC} {ρ ρ1 ρ2 : En} {σ : St} {H H1 H2 : Hp} (a : Nx R ρ σ H R1 ρ1 H1) (b : Nx R1 ρ1 σ H1 R2 ρ2 H2) : Nx R ρ σ H R2 ρ2 H2 where
  en := b.en
  k := b.k.trans a.k
  m := fun x h => a.m x (b.m x h)
  cov := fun x h => by
    rcases a.cov x h with q | q
    · rcases b.cov x q with q | q
      · exact .inl q
      · exact .inr (a.owns q)
    · exact .inr q
  h := Keep.trans a.h b.h fun x h => .inl (a.owns h)
  own := fun i l o h => by
    obtain ⟨u, h1⟩ := b.own i l o h
    exact a.own i l u h1
  al := fun x o h => by
    obtain ⟨u, h1⟩ := a.al x o h
    exact b.al x u h1
theorem Nx.refl {R : RC} {ρ : En} {σ : St} {H : Hp} (e : EnR R H ρ σ) : Nx R ρ σ H R ρ H := ⟨e, rfl, fun _ h => h, fun _ h => .inl h, Keep.refl, fun _ _ o h => ⟨o, h⟩, fun _ o h => ⟨o, h⟩⟩
theorem Nx.to {R R' : RC} {ρ ρ' : En} {σ : St} {H H' : Hp} (e : EnR R H ρ σ) (n : Nx R ρ σ H R' ρ' H') : To R H R' H' :=
  ⟨n.k, fun a h => .inl (n.m a h), n.h.mono fun a h => e.own_m h⟩
theorem DR.nx {R R' : RC} {ρ ρ' : En} {σ : St} {H H' : Hp} {d : D} {v : V} (r : DR R H d v) (e : EnR R H ρ σ) (n : Nx R ρ σ H R' ρ' H') : DR R' H' d v := r.to (n.to e)
theorem DRs.nx {R R' : RC} {ρ ρ' : En} {σ : St} {H H' : Hp} {d : List D} {v : List V} (r : DRs R H d v) (e : EnR R H ρ σ) (n : Nx R ρ σ H R' ρ' H') : DRs R' H' d v := r.to (n.to e)

/-- the heap only grows -/
theorem To.ex {R : RC} {H H' : Hp} (e : Evl.Ex H H') : To R H R H' := ⟨rfl, fun _ h => .inl h, Keep.of_ex e⟩
theorem OwR.ex {R : RC} {H H' : Hp} (e : Evl.Ex H H') {o : Ow} {a : Addr} (h : OwR R H o a) : OwR R H' o a := by
  refine h.to (To.ex e) h.m ?_
  cases o with
  | lst ds =>
    obtain ⟨h1, xs, h2, h3⟩ := h
    rw [h2, e _ _ h2]
  | dct ds =>
    obtain ⟨h1, kvs, h2, h3⟩ := h
    rw [h2, e _ _ h2]
theorem SlR.ex {R : RC} {H H' : Hp} (e : Evl.Ex H H') {s : Sl} {y : Option V} (h : SlR R H s y) : SlR R H' s y := by
  cases s with
  | no => trivial
  | v d =>
    obtain ⟨x, h1, h2⟩ := h
    exact ⟨x, h1, h2.to (To.ex e)⟩
  | own l o =>
    obtain ⟨a, h1, h2⟩ := h
    exact ⟨a, h1, h2.ex e⟩
theorem EnR.ex {R : RC} {H H' : Hp} {ρ : En} {σ : St} (e : Evl.Ex H H') (h : EnR R H ρ σ) : EnR R H' ρ σ where
  len := h.len
  sl := fun i s q => by
    obtain ⟨y, h1, h2⟩ := h.sl i s q
    exact ⟨y, h1, h2.ex e⟩
  ap := h.ap
  tr := fun a m => by
    obtain ⟨o, q⟩ := h.tr a m
    exact ⟨o, e _ _ q⟩
theorem Nx.ex {R : RC} {ρ : En} {σ : St} {H H' : Hp} (h : EnR R H ρ σ) (e : Evl.Ex H H') : Nx R ρ σ H R ρ H' :=
  ⟨h.ex e, rfl, fun _ h => h, fun _ h => .inl h, Keep.of_ex e, fun _ _ o h => ⟨o, h⟩, fun a o h => ⟨o, e a o h⟩⟩
end Mi
set_option Elab.async false
set_option linter.all false
set_option maxRecDepth 100000
set_option maxHeartbeats 2000000
/-! M2: results, handles, readings -/
namespace Mi
open PySem L2

/-- an exception: its class by name, its fields -/
structure Xc where
  c : Str
  fs : List (Str × D)
inductive R3 (α : Type) where
  | ok (a : α) (ρ : En)
  | ex (x : Xc) (ρ : En)
abbrev Mo (α : Type) := En → Option (R3 α)
def Mo.bind {α β : Type} (m : Mo α) (k : α → Mo β) : Mo β := fun ρ => match m ρ with
  | some (.ok a ρ') => k a ρ'
  | some (.ex x ρ') => some (.ex x ρ')
  | none => none
def Mo.pure {α : Type} (a : α) : Mo α := fun ρ => some (.ok a ρ)
def Mo.lift {α : Type} (o : Option α) : Mo α := fun ρ => match o with
  | some a => some (.ok a ρ)
  | none => none

/-- plain data, or what a slot holds -/
inductive Hd where
  | val (d : D) | slot (i : Nat)
def deref1 (ρ : En) : Hd → Option D
  | .val d => some d
  | .slot i => match ρ[i]? with
    | some (.own _ o) => some o.toD
    | some (.v d) => some d
    | _ => none
def deref (h : Hd) : Mo D := fun ρ => match deref1 ρ h with
  | some d => some (.ok d ρ)
  | none => none
def derefs1 (ρ : En) : List Hd → Option (List D)
  | [] => some []
  | h :: hs => match deref1 ρ h, derefs1 ρ hs with
    | some d, some ds => some (d :: ds)
    | _, _ => none
def derefs (hs : List Hd) : Mo (List D) := fun ρ => match derefs1 ρ hs with
  | some d => some (.ok d ρ)
  | none => none
/-- the container of a slot becomes plain data for good -/
def freeze (h : Hd) : Mo D := fun ρ => match h with
  | .val d => some (.ok d ρ)
  | .slot i => match ρ[i]? with
    | some (.own false o) => some (.ok o.toD (ρ.set i (.v o.toD)))
    | some (.v d) => some (.ok d ρ)
    | _ => none
def freezes : List Hd → Mo (List D)
  | [] => Mo.pure []
  | h :: hs => Mo.bind (freeze h) fun d => Mo.bind (freezes hs) fun ds => Mo.pure (d :: ds)

def HdR (R : RC) (H : Hp) (σ : St) : Hd → V → Prop
  | .val d, x => DR R H d x
  | .slot i, x => σ[i]? = some (some x)
theorem HdR.to {R R' : RC} {H H' : Hp} {σ : St} (t : To R H R' H') {h : Hd} {x : V} (r : HdR R H σ h x) : HdR R' H' σ h x := by
  cases h with
  | val d => exact DR.to t r
  | slot i => exact r
inductive HdRs (R : RC) (H : Hp) (σ : St) : List Hd → List V → Prop
  | nil : HdRs R H σ [] []
  | cons {h : Hd} {x : V} {hs : List Hd} {xs : List V} : HdR R H σ h x → HdRs R H σ hs xs → HdRs R H σ (h :: hs) (x :: xs)
theorem HdRs.to {R R' : RC} {H H' : Hp} {σ : St} (t : To R H R' H') : ∀ {h : List Hd} {x : List V}, HdRs R H σ h x → HdRs R' H' σ h x
  | _, _, .nil => .nil
  | _, _, .cons a b => .cons (a.to t) (HdRs.to t b)
/-- an argument: plain data, or a container as it stands -/
def AR (R : RC) (H : Hp) (d : D) (x : V) : Prop := DR R H d x ∨ ∃ o a, d = Ow.toD o ∧ x = .ref a ∧ OwR R H o a
inductive ARs (R : RC) (H : Hp) : List D → List V → Prop
  | nil : ARs R H [] []
  | cons {d : D} {x : V} {ds : List D} {xs : List V} : AR R H d x → ARs R H ds xs → ARs R H (d :: ds) (x :: xs)
theorem deref1_ok {R : RC} {H : Hp} {ρ : En} {σ : St} (e : EnR R H ρ σ) {h : Hd} {x : V} {d : D} (r : HdR R H σ h x) (q : deref1 ρ h = some d) : AR R H d x := by
  cases h with
  | val d' =>
    cases q
    exact .inl r
  | slot i =>
    unfold deref1 at q
    have r' : σ[i]? = some (some x) := r
    cases hs : ρ[i]? with
    | none => simp [hs] at q
    | some s =>
      obtain ⟨y, h1, h2⟩ := e.sl i s hs
      rw [r'] at h1
      cases h1
      cases s with
      | no => simp [hs] at q
      | v d' =>
        simp [hs] at q
        subst q
        obtain ⟨x', h3, h4⟩ := h2
        cases h3
        exact .inl h4
      | own l o =>
        simp [hs] at q
        subst q
        obtain ⟨a, h3, h4⟩ := h2
        cases h3
        exact .inr ⟨o, a, rfl, rfl, h4⟩
theorem derefs1_ok {R : RC} {H : Hp} {ρ : En} {σ : St} (e : EnR R H ρ σ) : ∀ {hs : List Hd} {xs : List V} {ds : List D}, HdRs R H σ hs xs → derefs1 ρ hs = some ds → ARs R H ds xs
  | _, _, _, .nil, q => by
    cases q
    exact .nil
  | _, _, ds, .cons (h := h) (hs := hs) a b, q => by
    unfold derefs1 at q
    cases h1 : deref1 ρ h with
    | none => simp [h1] at q
    | some d =>
      cases h2 : derefs1 ρ hs with
      | none => simp [h1, h2] at q
      | some ds' =>
        simp [h1, h2] at q
        subst q
        exact .cons (deref1_ok e a h1) (derefs1_ok e b h2)

theorem set_get {α : Type} {l : List α} {i j : Nat} {x y : α} (h : (l.set i x)[j]? = some y) : (i = j ∧ y = x ∧ i < l.length) ∨ (i ≠ j ∧ l[j]? = some y) := by
  by_cases hij : i = j
  · subst hij
    by_cases hl : i < l.length
    · rw [List.getElem?_set_self hl] at h
      cases h
      exact .inl ⟨rfl, rfl, hl⟩
    · rw [List.getElem?_eq_none (by simpa using hl)] at h
      cases h
  · rw [List.getElem?_set_ne hij] at h
    exact .inr ⟨hij, h⟩
/-- the addresses but one -/
def RC.but (R : RC) (a : Addr) : RC := ⟨R.K, fun b => R.M b ∧ b ≠ a⟩
theorem to_but {R : RC} {H : Hp} {a : Addr} : To R H (R.but a) H := ⟨rfl, fun _ h => .inl h.1, Keep.refl⟩
theorem OwR.but {R : RC} {H : Hp} {a b : Addr} {o : Ow} (h : OwR R H o b) (n : b ≠ a) : OwR (R.but a) H o b := h.to to_but ⟨h.m, n⟩ rfl
theorem freeze_ok {R : RC} {H : Hp} {ρ ρ' : En} {σ : St} (e : EnR R H ρ σ) {h : Hd} {x : V} {d : D} (r : HdR R H σ h x) (q : freeze h ρ = some (.ok d ρ')) : ∃ R', Nx R ρ σ H R' ρ' H ∧ DR R' H d x := by
  cases h with
  | val d' =>
    cases q
    exact ⟨R, Nx.refl e, r⟩
  | slot i =>
    unfold freeze at q
    have r' : σ[i]? = some (some x) := r
    cases hs : ρ[i]? with
    | none => simp [hs] at q
    | some s =>
      obtain ⟨y, h1, h2⟩ := e.sl i s hs
      rw [r'] at h1
      cases h1
      cases s with
      | no => simp [hs] at q
      | v d' =>
        simp [hs] at q
        obtain ⟨q1, q2⟩ := q
        subst q1; subst q2
        obtain ⟨x', h3, h4⟩ := h2
        cases h3
        exact ⟨R, Nx.refl e, h4⟩
      | own l o =>
        cases l with
        | true => simp [hs] at q
        | false =>
          simp [hs] at q
          obtain ⟨q1, q2⟩ := q
          subst q1; subst q2
          obtain ⟨a, h3, h4⟩ := h2
          cases h3
          have dr : DR (R.but a) H o.toD (.ref a) := by
            have := h4.dr to_but (fun z => z.2 rfl)
            cases o <;> exact this
          refine ⟨R.but a, ⟨⟨by rw [List.length_set]; exact e.len, fun j s hj => ?_, fun j k l m o1 u hjk hj hk => ?_, fun b hb => e.tr b hb.1⟩, rfl, fun b hb => hb.1, fun b hb => ?_, Keep.refl, fun j l o1 hj => ?_, fun _ o h => ⟨o, h⟩⟩, dr⟩
          · rcases set_get hj with ⟨rfl, rfl, _⟩ | ⟨hne, hj⟩
            · exact ⟨_, r', _, rfl, dr⟩
            · obtain ⟨y, k1, k2⟩ := e.sl j s hj
              refine ⟨y, k1, ?_⟩
              cases s with
              | no => trivial
              | v d1 =>
                obtain ⟨x1, k3, k4⟩ := k2
                exact ⟨x1, k3, k4.to to_but⟩
              | own l1 o1 =>
                obtain ⟨b, k3, k4⟩ := k2
                refine ⟨b, k3, k4.but fun z => ?_⟩
                subst z
                exact e.ap i j _ _ _ _ hne hs hj (by rw [r', k1, k3])
          · rcases set_get hj with ⟨_, z, _⟩ | ⟨_, hj⟩
            · cases z
            · rcases set_get hk with ⟨_, z, _⟩ | ⟨_, hk⟩
              · cases z
              · exact e.ap j k l m o1 u hjk hj hk
          · by_cases hba : b = a
            · subst hba
              exact .inr ⟨i, false, o, hs, r'⟩
            · exact .inl ⟨hb, hba⟩
          · rcases set_get hj with ⟨_, z, _⟩ | ⟨_, hj⟩
            · cases z
            · exact ⟨o1, hj⟩
theorem freeze_no {h : Hd} {ρ ρ' : En} {x : Xc} (q : freeze h ρ = some (.ex x ρ')) : False := by
  cases h with
  | val d => cases q
  | slot i =>
    unfold freeze at q
    cases hs : ρ[i]? with
    | none => simp [hs] at q
    | some s =>
      cases s with
      | no => simp [hs] at q
      | v d' => simp [hs] at q
      | own l o => cases l <;> simp [hs] at q
theorem bind_ok {α β : Type} {m : Mo α} {k : α → Mo β} {ρ : En} {r : R3 β} (h : Mo.bind m k ρ = some r) : (∃ a ρ', m ρ = some (.ok a ρ') ∧ k a ρ' = some r) ∨ ∃ x ρ', m ρ = some (.ex x ρ') ∧ r = .ex x ρ' := by
  unfold Mo.bind at h
  cases hm : m ρ with
  | none => simp [hm] at h
  | some r' =>
    cases r' with
    | ok a ρ' => exact .inl ⟨a, ρ', rfl, by simpa [hm] using h⟩
    | ex x ρ' => exact .inr ⟨x, ρ', rfl, by simpa [hm] using h.symm⟩
theorem freezes_ok {σ : St} {H : Hp} : ∀ {hs : List Hd} {xs : List V} {R : RC} {ρ : En} {r : R3 (List D)}, EnR R H ρ σ → HdRs R H σ hs xs → freezes hs ρ = some r → ∃ ds ρ', r = .ok ds ρ' ∧ ∃ R', Nx R ρ σ H R' ρ' H ∧ DRs R' H ds xs
  | _, _, R, ρ, r, e, .nil, q => by
    cases q
    exact ⟨_, _, rfl, R, Nx.refl e, .nil⟩
  | _, _, R, ρ, r, e, .cons (h := h) (hs := hs) a b, q => by
    unfold freezes at q
    rcases bind_ok q with ⟨d, ρ1, q1, q2⟩ | ⟨x, ρ1, q1, _⟩
    · obtain ⟨R1, n1, r1⟩ := freeze_ok e a q1
      rcases bind_ok q2 with ⟨ds, ρ2, q3, q4⟩ | ⟨x, ρ2, q3, _⟩
      · obtain ⟨ds', ρ2', z, R2, n2, r2⟩ := freezes_ok n1.en (b.to (n1.to e)) q3
        cases z
        cases q4
        exact ⟨_, _, rfl, R2, n1.trans n2, .cons (r1.nx n1.en n2) r2⟩
      · obtain ⟨ds', ρ2', z, _⟩ := freezes_ok n1.en (b.to (n1.to e)) q3
        cases z
    · exact (freeze_no q1).elim

/-! ### readings -/
/-- an exception as it stands: its class and its dict -/
def ExR (R : RC) (H : Hp) (x : Xc) (cls : Value) (d : Option Addr) : Prop :=
  cls = .ref (He.ga R.K x.c) ∧ ((x.fs = [] ∧ d = none) ∨ ∃ (dd : Addr) (fs : List (Str × V)), d = some dd ∧ H dd = some (.xd fs) ∧ ¬ R.M dd ∧ fs.map (·.1) = x.fs.map (·.1) ∧ DRs R H (x.fs.map (·.2)) (fs.map (·.2)))
/-- what follows an expression's result -/
def After (W : WX) (R : RC) (ρ : En) (σ : St) (H : Hp) {α β : Type} (rel : RC → Hp → α → β → Prop) (Q : β → Hp → Prop) : R3 α → Prop
  | .ok a ρ' => ∀ R' x H', Nx R ρ σ H R' ρ' H' → rel R' H' a x → Q x H'
  | .ex x ρ' => ∀ R' H' cls d, Nx R ρ σ H R' ρ' H' → ExR R' H' x cls d → W cls d σ H'
def tA (K : PySem.W.Frag) (W : WX) (f : Mo Hd) : TE := fun σ H Q => ∃ R ρ r, R.K = K ∧ EnR R H ρ σ ∧ f ρ = some r ∧ After W R ρ σ H (fun R H => HdR R H σ) Q r
def tAs (K : PySem.W.Frag) (W : WX) (f : Mo (List Hd)) : TA := fun σ H Q => ∃ R ρ r, R.K = K ∧ EnR R H ρ σ ∧ f ρ = some r ∧ After W R ρ σ H (fun R H => HdRs R H σ) Q r
def tD (K : PySem.W.Frag) (W : WX) (f : Mo D) : TE := fun σ H Q => ∃ R ρ r, R.K = K ∧ EnR R H ρ σ ∧ f ρ = some r ∧ After W R ρ σ H DR Q r
/-- a test -/
def tB (K : PySem.W.Frag) (W : WX) (f : Mo Bool) : TT := fun σ H Q => ∃ R ρ r, R.K = K ∧ EnR R H ρ σ ∧ f ρ = some r ∧ After W R ρ σ H (fun _ _ (a b : Bool) => a = b) Q r
section
variable {W : WX} {R R1 : RC} {ρ ρ1 : En} {σ : St} {H H1 : Hp} {α β : Type} {rel : RC → Hp → α → β → Prop} {Q : β → Hp → Prop} {r : R3 α}
theorem After.nx (n : Nx R ρ σ H R1 ρ1 H1) (h : After W R ρ σ H rel Q r) : After W R1 ρ1 σ H1 rel Q r := by
  cases r with
  | ok a ρ' => exact fun R' x H' m q => h R' x H' (n.trans m) q
  | ex x ρ' => exact fun R' H' cls d m q => h R' H' cls d (n.trans m) q
end
theorem PE.imp {X : Cx} {e : Expr} {t t' : TE} (h : PE X e t) (i : ∀ σ H Q, t' σ H Q → t σ H Q) : PE X e t' := ⟨fun pins s σ H Q I q => h.run pins s σ H Q I (i σ H Q q)⟩
theorem PT.imp {X : Cx} {e : Expr} {t t' : TT} (h : PT X e t) (i : ∀ σ H Q, t' σ H Q → t σ H Q) : PT X e t' := ⟨fun pins s σ H Q I q => h.run pins s σ H Q I (i σ H Q q)⟩
theorem PA.imp {X : Cx} {e : List Expr} {t t' : TA} (h : PA X e t) (i : ∀ σ H Q, t' σ H Q → t σ H Q) : PA X e t' := ⟨fun pos pins s σ H Q I q => h.run pos pins s σ H Q I (i σ H Q q)⟩
theorem PS.imp {X : Cx} {e : Stmt} {t t' : TS} (h : PS X e t) (i : ∀ D σ H, t' D σ H → t D σ H) : PS X e t' := ⟨fun pins s σ H D I q => h.run pins s σ H D I (i D σ H q)⟩
theorem PSs.imp {X : Cx} {e : List Stmt} {t t' : TS} (h : PSs X e t) (i : ∀ D σ H, t' D σ H → t D σ H) : PSs X e t' := ⟨fun pins s σ H D I q => h.run pins s σ H D I (i D σ H q)⟩

/-! ### one expression, then another -/
section
variable {K : PySem.W.Frag} {W : WX}
/-- args in a row -/
theorem tAs_cons {f : Mo Hd} {g : Mo (List Hd)} {σ : St} {H : Hp} {Q : List V → Hp → Prop}
    (h : tAs K W (Mo.bind f fun a => Mo.bind g fun as => Mo.pure (a :: as)) σ H Q) : tCons (tA K W f) (tAs K W g) σ H Q := by
  obtain ⟨R, ρ, r, hk, e, hf, q⟩ := h
  rcases bind_ok hf with ⟨a, ρ1, h1, h2⟩ | ⟨x, ρ1, h1, rfl⟩
  · refine ⟨R, ρ, _, hk, e, h1, fun R1 x H1 n1 r1 => ?_⟩
    rcases bind_ok h2 with ⟨as, ρ2, h3, h4⟩ | ⟨x, ρ2, h3, rfl⟩
    · cases h4
      exact ⟨R1, ρ1, _, n1.k.trans hk, n1.en, h3, fun R2 xs H2 n2 r2 => q R2 (x :: xs) H2 (n1.trans n2) (.cons (HdR.to (n2.to n1.en) r1) r2)⟩
    · exact ⟨R1, ρ1, _, n1.k.trans hk, n1.en, h3, fun R2 H2 cls d n2 r2 => q R2 H2 cls d (n1.trans n2) r2⟩
  · exact ⟨R, ρ, _, hk, e, h1, q⟩
theorem tAs_nil {σ : St} {H : Hp} {Q : List V → Hp → Prop} (h : tAs K W (Mo.pure []) σ H Q) : tNil σ H Q := by
  obtain ⟨R, ρ, r, hk, e, hf, q⟩ := h
  cases hf
  exact q R [] H (Nx.refl e) .nil
/-- an operation on values: what it gives of arguments -/
def OpS (K : PySem.W.Frag) (r : R2) (op : D → D → Option D) : Prop := ∀ (R : RC) (H : Hp) (x y : V) (a b d : D) (Q : VK), R.K = K → (∀ z, R.M z → ∃ o, H z = some o) → AR R H a x → AR R H b y → op a b = some d →
  (∀ z H', Evl.Ex H H' → DR R H' d z → Q z H') → r x y H Q
theorem op_ok {r : R2} {op : D → D → Option D} (ho : OpS K r op) {f g : Mo Hd} {σ : St} {H : Hp} {Q : VK}
    (h : tA K W (Mo.bind f fun a => Mo.bind g fun b => Mo.bind (deref a) fun x => Mo.bind (deref b) fun y => Mo.bind (Mo.lift (op x y)) fun d => Mo.pure (.val d)) σ H Q) : tOp r (tA K W f) (tA K W g) σ H Q := by
  obtain ⟨R, ρ, rr, hk, e, hf, q⟩ := h
  rcases bind_ok hf with ⟨a, ρ1, h1, h2⟩ | ⟨x, ρ1, h1, rfl⟩
  · refine ⟨R, ρ, _, hk, e, h1, fun R1 x H1 n1 r1 => ?_⟩
    rcases bind_ok h2 with ⟨b, ρ2, h3, h4⟩ | ⟨z, ρ2, h3, rfl⟩
    · refine ⟨R1, ρ1, _, n1.k.trans hk, n1.en, h3, fun R2 y H2 n2 r2 => ?_⟩
      have r1' := HdR.to (n2.to n1.en) r1
      unfold Mo.bind deref at h4
      cases k1 : deref1 ρ2 a with
      | none => simp [k1] at h4
      | some da =>
        cases k2 : deref1 ρ2 b with
        | none => simp [k1, k2] at h4
        | some db =>
          cases k3 : op da db with
          | none => simp [k1, k2, k3, Mo.lift] at h4
          | some d =>
            simp [k1, k2, k3, Mo.lift, Mo.pure] at h4
            subst h4
            refine ho R2 H2 x y da db d Q ((n2.k.trans n1.k).trans hk) n2.en.tr (deref1_ok n2.en r1' k1) (deref1_ok n2.en r2 k2) k3 fun z H3 ex dr => ?_
            exact q R2 z H3 ((n1.trans n2).trans (Nx.ex n2.en ex)) dr
    · exact ⟨R1, ρ1, _, n1.k.trans hk, n1.en, h3, fun R2 H2 cls d n2 r2 => q R2 H2 cls d (n1.trans n2) r2⟩
  · exact ⟨R, ρ, _, hk, e, h1, q⟩
/-- a call on values -/
def CallS (K : PySem.W.Frag) (r : List V → Hp → VK → Prop) (fn : List D → Option D) : Prop := ∀ (R : RC) (H : Hp) (xs : List V) (ds : List D) (d : D) (Q : VK), R.K = K → (∀ z, R.M z → ∃ o, H z = some o) → ARs R H ds xs → fn ds = some d →
  (∀ z H', Evl.Ex H H' → DR R H' d z → Q z H') → r xs H Q
theorem call_ok {r : List V → Hp → VK → Prop} {fn : List D → Option D} (ho : CallS K r fn) {g : Mo (List Hd)} {σ : St} {H : Hp} {Q : VK}
    (h : tA K W (Mo.bind g fun hs => Mo.bind (derefs hs) fun ds => Mo.bind (Mo.lift (fn ds)) fun d => Mo.pure (.val d)) σ H Q) : tCB r (tAs K W g) σ H Q := by
  obtain ⟨R, ρ, rr, hk, e, hf, q⟩ := h
  rcases bind_ok hf with ⟨hs, ρ1, h1, h2⟩ | ⟨x, ρ1, h1, rfl⟩
  · refine ⟨R, ρ, _, hk, e, h1, fun R1 xs H1 n1 r1 => ?_⟩
    unfold Mo.bind derefs at h2
    cases k1 : derefs1 ρ1 hs with
    | none => simp [k1] at h2
    | some ds =>
      cases k2 : fn ds with
      | none => simp [k1, k2, Mo.lift] at h2
      | some d =>
        simp [k1, k2, Mo.lift, Mo.pure] at h2
        subst h2
        exact ho R1 H1 xs ds d Q (n1.k.trans hk) n1.en.tr (derefs1_ok n1.en r1 k1) k2 fun z H3 ex dr => q R1 z H3 (n1.trans (Nx.ex n1.en ex)) dr
  · exact ⟨R, ρ, _, hk, e, h1, q⟩
/-- plain data of a handle -/
theorem tD_of {f : Mo Hd} {σ : St} {H : Hp} {Q : VK} (h : tD K W (Mo.bind f freeze) σ H Q) : tA K W f σ H Q := by
  obtain ⟨R, ρ, rr, hk, e, hf, q⟩ := h
  rcases bind_ok hf with ⟨a, ρ1, h1, h2⟩ | ⟨x, ρ1, h1, rfl⟩
  · refine ⟨R, ρ, _, hk, e, h1, fun R1 x H1 n1 r1 => ?_⟩
    cases rr with
    | ok d ρ2 =>
      obtain ⟨R2, n2, r2⟩ := freeze_ok n1.en r1 h2
      exact q R2 x H1 (n1.trans n2) r2
    | ex x' ρ2 => exact (freeze_no h2).elim
  · exact ⟨R, ρ, _, hk, e, h1, q⟩
theorem tA_val {f : Mo D} {σ : St} {H : Hp} {Q : VK} (h : tA K W (Mo.bind f fun d => Mo.pure (.val d)) σ H Q) : tD K W f σ H Q := by
  obtain ⟨R, ρ, rr, hk, e, hf, q⟩ := h
  rcases bind_ok hf with ⟨a, ρ1, h1, h2⟩ | ⟨x, ρ1, h1, rfl⟩
  · cases h2
    exact ⟨R, ρ, _, hk, e, h1, fun R1 x H1 n1 r1 => q R1 x H1 n1 r1⟩
  · exact ⟨R, ρ, _, hk, e, h1, q⟩
/-- a tuple, a list of written items -/
theorem tup_ok {g : Mo (List Hd)} {σ : St} {H : Hp} {Q : VK} (h : tA K W (Mo.bind g fun hs => Mo.bind (freezes hs) fun ds => Mo.bind (Mo.lift (if ds.length ≤ sizeLine then some (D.tup ds) else none)) fun d => Mo.pure (.val d)) σ H Q) : tTup (tAs K W g) σ H Q := by
  obtain ⟨R, ρ, rr, hk, e, hf, q⟩ := h
  rcases bind_ok hf with ⟨hs, ρ1, h1, h2⟩ | ⟨x, ρ1, h1, rfl⟩
  · refine ⟨R, ρ, _, hk, e, h1, fun R1 xs H1 n1 r1 => ?_⟩
    rcases bind_ok h2 with ⟨ds, ρ2, h3, h4⟩ | ⟨x, ρ2, h3, _⟩
    · obtain ⟨ds', ρ2', z, R2, n2, r2⟩ := freezes_ok n1.en r1 h3
      cases z
      unfold Mo.bind Mo.lift at h4
      by_cases hl : ds.length ≤ sizeLine
      · simp [hl, Mo.pure] at h4
        subst h4
        refine ⟨by rw [← r2.len]; exact hl, fun p hp => ?_⟩
        have ex : Evl.Ex H1 (upd H1 p (.tup xs)) := Evl.Ex.new hp
        exact q R2 (.ref p) _ ((n1.trans n2).trans (Nx.ex n2.en ex)) (DR.tup (.inl ⟨.inl upd_same, n2.en.fresh hp⟩) (r2.to (To.ex ex)))
      · simp [hl] at h4
    · obtain ⟨ds', ρ2', z, _⟩ := freezes_ok n1.en r1 h3
      cases z
  · exact ⟨R, ρ, _, hk, e, h1, q⟩
theorem lst_ok {g : Mo (List Hd)} {σ : St} {H : Hp} {Q : VK} (h : tA K W (Mo.bind g fun hs => Mo.bind (freezes hs) fun ds => Mo.bind (Mo.lift (if ds.length ≤ sizeLine then some (D.lst ds) else none)) fun d => Mo.pure (.val d)) σ H Q) : tLst (tAs K W g) σ H Q := by
  obtain ⟨R, ρ, rr, hk, e, hf, q⟩ := h
  rcases bind_ok hf with ⟨hs, ρ1, h1, h2⟩ | ⟨x, ρ1, h1, rfl⟩
  · refine ⟨R, ρ, _, hk, e, h1, fun R1 xs H1 n1 r1 => ?_⟩
    rcases bind_ok h2 with ⟨ds, ρ2, h3, h4⟩ | ⟨x, ρ2, h3, _⟩
    · obtain ⟨ds', ρ2', z, R2, n2, r2⟩ := freezes_ok n1.en r1 h3
      cases z
      unfold Mo.bind Mo.lift at h4
      by_cases hl : ds.length ≤ sizeLine
      · simp [hl, Mo.pure] at h4
        subst h4
        refine ⟨by rw [← r2.len]; exact hl, fun p hp => ?_⟩
        have ex : Evl.Ex H1 (upd H1 p (.lst xs)) := Evl.Ex.new hp
        exact q R2 (.ref p) _ ((n1.trans n2).trans (Nx.ex n2.en ex)) (DR.lst ⟨upd_same, n2.en.fresh hp⟩ (r2.to (To.ex ex)))
      · simp [hl] at h4
    · obtain ⟨ds', ρ2', z, _⟩ := freezes_ok n1.en r1 h3
      cases z
  · exact ⟨R, ρ, _, hk, e, h1, q⟩
/-- a name -/
def readVar (i : Nat) : Mo Hd := fun ρ => match ρ[i]? with
  | some (.v d) => some (.ok (.val d) ρ)
  | some (.own _ _) => some (.ok (.slot i) ρ)
  | _ => none
theorem var_ok {i : Nat} {σ : St} {H : Hp} {Q : VK} (h : tA K W (readVar i) σ H Q) : tVar i σ H Q := by
  obtain ⟨R, ρ, rr, hk, e, hf, q⟩ := h
  unfold readVar at hf
  cases hs : ρ[i]? with
  | none => simp [hs] at hf
  | some s =>
    obtain ⟨y, h1, h2⟩ := e.sl i s hs
    cases s with
    | no => simp [hs] at hf
    | v d =>
      simp [hs] at hf
      subst hf
      obtain ⟨x, rfl, dr⟩ := h2
      exact ⟨x, h1, q R x H (Nx.refl e) dr⟩
    | own l o =>
      simp [hs] at hf
      subst hf
      obtain ⟨a, rfl, _⟩ := h2
      exact ⟨_, h1, q R _ H (Nx.refl e) h1⟩
/-- what is constant -/
theorem con_ok {d : D} {x : V} (hx : ∀ R H, DR R H d x) {σ : St} {H : Hp} {Q : VK} (h : tA K W (Mo.pure (.val d)) σ H Q) : tC x σ H Q := by
  obtain ⟨R, ρ, rr, hk, e, hf, q⟩ := h
  cases hf
  exact q R x H (Nx.refl e) (hx R H)
end
end Mi
set_option Elab.async false
set_option linter.all false
set_option maxRecDepth 100000
set_option maxHeartbeats 2000000
/-! M3: statements' readings, a def's promise, calls -/
namespace Mi
open PySem L2

/-! ### results: plain data, or a container that nobody else has -/
inductive Fr where
  | dat (d : D) | new (o : Ow)
def Fr.toD : Fr → D
  | .dat d => d
  | .new o => o.toD
/-- one more address that may be written -/
def RC.wth (R : RC) (p : Addr) : RC := ⟨R.K, fun a => R.M a ∨ a = p⟩
/-- behind an expression that may have made containers of its own -/
structure Ny (R : RC) (ρ : En) (σ : St) (H : Hp) (R' : RC) (ρ' : En) (H' : Hp) : Prop where
  en : EnR R' H' ρ' σ
  k : R'.K = R.K
  m : ∀ a, R'.M a → R.M a ∨ H a = none
  cov : ∀ a, R.M a → R'.M a ∨ Owns ρ σ a
  h : Keep (Owns ρ σ) H H'
  own : ∀ (i : Nat) (l : Bool) (o : Ow), ρ'[i]? = some (.own l o) → ∃ u, ρ[i]? = some (.own l u)
  al : ∀ a o, H a = some o → ∃ u, H' a = some u
section
variable {R R1 R2 R' : RC} {ρ ρ1 ρ2 ρ' : En} {σ : St} {H H1 H2 H' : Hp}
theorem Nx.ny (n : Nx R ρ σ H R' ρ' H') : Ny R ρ σ H R' ρ' H' := ⟨n.en, n.k, fun a h => .inl (n.m a h), n.cov, n.h, n.own, n.al⟩
theorem Ny.nx (n : Ny R ρ σ H R' ρ' H') (m : ∀ a, R'.M a → R.M a) : Nx R ρ σ H R' ρ' H' := ⟨n.en, n.k, m, n.cov, n.h, n.own, n.al⟩
theorem Ny.owns (n : Ny R ρ σ H R' ρ' H') {a : Addr} (h : Owns ρ' σ a) : Owns ρ σ a := by
  obtain ⟨i, l, o, h1, h2⟩ := h
  obtain ⟨u, h3⟩ := n.own i l o h1
  exact ⟨i, l, u, h3, h2⟩
theorem Ny.to (e : EnR R H ρ σ) (n : Ny R ρ σ H R' ρ' H') : To R H R' H' := ⟨n.k, n.m, n.h.mono fun a h => e.own_m h⟩
theorem none_of {H H' : Hp} (al : ∀ a o, H a = some o → ∃ u, H' a = some u) {a : Addr} (h : H' a = none) : H a = none := by
  cases q : H a with
  | none => rfl
  | some o =>
    obtain ⟨u, z⟩ := al a o q
    rw [h] at z; cases z
theorem Ny.trans (a : Ny R ρ σ H R1 ρ1 H1) (b : Ny R1 ρ1 σ H1 R2 ρ2 H2) : Ny R ρ σ H R2 ρ2 H2 where
  en := b.en
  k := b.k.trans a.k
  m := fun x h => by
    rcases b.m x h with q | q
    · exact a.m x q
    · exact .inr (none_of a.al q)
  cov := fun x h => by
    rcases a.cov x h with q | q
    · rcases b.cov x q with q | q
      · exact .inl q
      · exact .inr (a.owns q)
    · exact .inr q
  h := Keep.trans a.h b.h fun x h => .inl (a.owns h)
  own := fun i l o h => by
    obtain ⟨u, h1⟩ := b.own i l o h
    exact a.own i l u h1
  al := fun x o h => by
    obtain ⟨u, h1⟩ := a.al x o h
    exact b.al x u h1
/-- a result as it stands: H0 is the heap of its beginning -/
def FrR (R : RC) (H : Hp) (ρ : En) (σ : St) (H0 : Hp) : Fr → V → Prop
  | .dat d, x => DR R H d x
  | .new o, x => ∃ p, x = .ref p ∧ OwR R H o p ∧ ¬ Owns ρ σ p ∧ H0 p = none
/-- what was made is let go as plain data -/
theorem fr_drop (e : EnR R H ρ σ) (n : Ny R ρ σ H R' ρ' H') {fr : Fr} {x : V} (r : FrR R' H' ρ' σ H fr x) : ∃ R2, Nx R ρ σ H R2 ρ' H' ∧ DR R2 H' fr.toD x := by
  have t : To R' H' ⟨R'.K, fun a => R'.M a ∧ R.M a⟩ H' := ⟨rfl, fun a h => .inl h.1, Keep.refl⟩
  refine ⟨⟨R'.K, fun a => R'.M a ∧ R.M a⟩, ⟨⟨n.en.len, fun i s h => ?_, n.en.ap, fun a h => n.en.tr a h.1⟩, n.k, fun a h => h.2, fun a h => (n.cov a h).imp_left fun q => ⟨q, h⟩, n.h, n.own, n.al⟩, ?_⟩
  · obtain ⟨y, h1, h2⟩ := n.en.sl i s h
    refine ⟨y, h1, ?_⟩
    cases s with
    | no => trivial
    | v d =>
      obtain ⟨z, h3, h4⟩ := h2
      exact ⟨z, h3, h4.to t⟩
    | own l o =>
      obtain ⟨a, h3, h4⟩ := h2
      subst h3
      exact ⟨a, rfl, h4.to t ⟨h4.m, e.own_m (n.owns ⟨i, l, o, h, h1⟩)⟩ rfl⟩
  · cases fr with
    | dat d => exact DR.to t r
    | new o =>
      obtain ⟨p, rfl, h1, h2, h3⟩ := r
      have := h1.dr t fun z => e.fresh h3 z.2
      cases o <;> exact this
end
/-- an expression that may make a container of its own -/
def AfterN (W : WX) (R : RC) (ρ : En) (σ : St) (H : Hp) (Q : VK) : R3 Fr → Prop
  | .ok fr ρ' => ∀ R' x H', Ny R ρ σ H R' ρ' H' → FrR R' H' ρ' σ H fr x → Q x H'
  | .ex x ρ' => ∀ R' H' cls d, Nx R ρ σ H R' ρ' H' → ExR R' H' x cls d → W cls d σ H'
def tN (K : PySem.W.Frag) (W : WX) (f : Mo Fr) : TE := fun σ H Q => ∃ R ρ r, R.K = K ∧ EnR R H ρ σ ∧ f ρ = some r ∧ AfterN W R ρ σ H Q r
section
variable {K : PySem.W.Frag} {W : WX} {σ : St} {H : Hp} {Q : VK}
theorem tN_val {f : Mo Fr} (h : tA K W (Mo.bind f fun fr => Mo.pure (.val fr.toD)) σ H Q) : tN K W f σ H Q := by
  obtain ⟨R, ρ, rr, hk, e, hf, q⟩ := h
  rcases bind_ok hf with ⟨a, ρ1, h1, h2⟩ | ⟨x, ρ1, h1, rfl⟩
  · cases h2
    refine ⟨R, ρ, _, hk, e, h1, fun R' x H' n r => ?_⟩
    obtain ⟨R2, n2, r2⟩ := fr_drop e n r
    exact q R2 x H' n2 r2
  · exact ⟨R, ρ, _, hk, e, h1, q⟩
theorem tN_of {f : Mo Hd} (h : tN K W (Mo.bind f fun a => Mo.bind (freeze a) fun d => Mo.pure (.dat d)) σ H Q) : tA K W f σ H Q := by
  obtain ⟨R, ρ, rr, hk, e, hf, q⟩ := h
  rcases bind_ok hf with ⟨a, ρ1, h1, h2⟩ | ⟨x, ρ1, h1, rfl⟩
  · refine ⟨R, ρ, _, hk, e, h1, fun R1 x H1 n1 r1 => ?_⟩
    rcases bind_ok h2 with ⟨d, ρ2, h3, h4⟩ | ⟨x, ρ2, h3, _⟩
    · cases h4
      obtain ⟨R2, n2, r2⟩ := freeze_ok n1.en r1 h3
      exact q R2 x H1 (n1.trans n2).ny r2
    · exact (freeze_no h3).elim
  · exact ⟨R, ρ, _, hk, e, h1, q⟩
end

/-! ### statements -/
inductive Fl where
  | nx | bk | ct | rt (d : Fr)
/-- owned by a slot that is not lent -/
def OwnF (ρ : En) (σ : St) (a : Addr) : Prop := ∃ (i : Nat) (o : Ow), ρ[i]? = some (.own false o) ∧ σ[i]? = some (some (.ref a))
def FrE (R : RC) (H : Hp) (ρ0 : En) (σ0 : St) (H0 : Hp) : Fr → V → Prop
  | .dat d, x => DR R H d x
  | .new o, x => ∃ p, x = .ref p ∧ OwR R H o p ∧ (H0 p = none ∨ OwnF ρ0 σ0 p)
/-- behind a statement -/
structure Ns (R : RC) (ρ : En) (σ : St) (H : Hp) (R' : RC) (ρ' : En) (σ' : St) (H' : Hp) : Prop where
  en : EnR R' H' ρ' σ'
  k : R'.K = R.K
  m : ∀ a, R'.M a → R.M a ∨ H a = none
  cov : ∀ a, R.M a → R'.M a ∨ Owns ρ σ a
  h : Keep (Owns ρ σ) H H'
  own : ∀ a, Owns ρ' σ' a → Owns ρ σ a ∨ H a = none
  lent : ∀ (i : Nat) (o : Ow), ρ'[i]? = some (.own true o) → (∃ u, ρ[i]? = some (.own true u)) ∧ σ'[i]? = σ[i]?
  ownF : ∀ a, OwnF ρ' σ' a → OwnF ρ σ a ∨ H a = none
  al : ∀ a o, H a = some o → ∃ u, H' a = some u
theorem Nx.ns {R R' : RC} {ρ ρ' : En} {σ : St} {H H' : Hp} (n : Nx R ρ σ H R' ρ' H') : Ns R ρ σ H R' ρ' σ H' :=
  ⟨n.en, n.k, fun a h => .inl (n.m a h), n.cov, n.h, fun a h => .inl (n.owns h), fun i o h => ⟨n.own i true o h, rfl⟩, fun a ⟨i, o, h1, h2⟩ => .inl (by
    obtain ⟨u, h3⟩ := n.own i false o h1
    exact ⟨i, u, h3, h2⟩), n.al⟩
theorem al_none {H H' : Hp} (al : ∀ a o, H a = some o → ∃ u, H' a = some u) {a : Addr} (h : H' a = none) : H a = none := by
  cases q : H a with
  | none => rfl
  | some o =>
    obtain ⟨u, z⟩ := al a o q
    rw [h] at z; cases z
theorem Ns.refl {R : RC} {ρ : En} {σ : St} {H : Hp} (e : EnR R H ρ σ) : Ns R ρ σ H R ρ σ H := (Nx.refl e).ns
theorem Ns.trans {R R1 R2 : RC} {ρ ρ1 ρ2 : En} {σ σ1 σ2 : St} {H H1 H2 : Hp} (e : EnR R H ρ σ) (a : Ns R ρ σ H R1 ρ1 σ1 H1) (b : Ns R1 ρ1 σ1 H1 R2 ρ2 σ2 H2) : Ns R ρ σ H R2 ρ2 σ2 H2 where
  en := b.en
  k := b.k.trans a.k
  m := fun x h => by
    rcases b.m x h with q | q
    · exact a.m x q
    · exact .inr (al_none a.al q)
  cov := fun x h => by
    rcases a.cov x h with q | q
    · rcases b.cov x q with q | q
      · exact .inl q
      · rcases a.own x q with q | q
        · exact .inr q
        · obtain ⟨o, z⟩ := e.tr x h
          rw [q] at z; cases z
    · exact .inr q
  h := Keep.trans a.h b.h a.own
  own := fun x h => by
    rcases b.own x h with q | q
    · exact a.own x q
    · exact .inr (al_none a.al q)
  lent := fun i o h => by
    obtain ⟨⟨u, h1⟩, h2⟩ := b.lent i o h
    obtain ⟨h3, h4⟩ := a.lent i u h1
    exact ⟨h3, h2.trans h4⟩
  ownF := fun x h => by
    rcases b.ownF x h with q | q
    · exact a.ownF x q
    · exact .inr (al_none a.al q)
  al := fun x o h => by
    obtain ⟨u, h1⟩ := a.al x o h
    exact b.al x u h1
theorem Ns.to {R R' : RC} {ρ ρ' : En} {σ σ' : St} {H H' : Hp} (e : EnR R H ρ σ) (n : Ns R ρ σ H R' ρ' σ' H') : To R H R' H' :=
  ⟨n.k, n.m, n.h.mono fun a h => e.own_m h⟩
abbrev Ms := Mo Fl
def AfterS (W : WX) (R : RC) (ρ : En) (σ : St) (H : Hp) (D : Ends) : R3 Fl → Prop
  | .ok .nx ρ' => ∀ R' σ' H', Ns R ρ σ H R' ρ' σ' H' → D.nx σ' H'
  | .ok .bk ρ' => ∀ R' σ' H', Ns R ρ σ H R' ρ' σ' H' → D.bk σ' H'
  | .ok .ct ρ' => ∀ R' σ' H', Ns R ρ σ H R' ρ' σ' H' → D.ct σ' H'
  | .ok (.rt d) ρ' => ∀ R' σ' H' x, Ns R ρ σ H R' ρ' σ' H' → FrE R' H' ρ σ H d x → D.rt x H'
  | .ex x ρ' => ∀ R' σ' H' cls d, Ns R ρ σ H R' ρ' σ' H' → ExR R' H' x cls d → W cls d σ' H'
def tS (K : PySem.W.Frag) (W : WX) (f : Ms) : TS := fun D σ H => ∃ R ρ r, R.K = K ∧ EnR R H ρ σ ∧ f ρ = some r ∧ AfterS W R ρ σ H D r
theorem AfterS.ns {W : WX} {R R1 : RC} {ρ ρ1 : En} {σ σ1 : St} {H H1 : Hp} {D : Ends} {r : R3 Fl} (e : EnR R H ρ σ) (n : Ns R ρ σ H R1 ρ1 σ1 H1) (h : AfterS W R ρ σ H D r) : AfterS W R1 ρ1 σ1 H1 D r := by
  cases r with
  | ex x ρ' => exact fun R' σ' H' cls d m q => h R' σ' H' cls d (Ns.trans e n m) q
  | ok f ρ' =>
    cases f with
    | nx => exact fun R' σ' H' m => h R' σ' H' (Ns.trans e n m)
    | bk => exact fun R' σ' H' m => h R' σ' H' (Ns.trans e n m)
    | ct => exact fun R' σ' H' m => h R' σ' H' (Ns.trans e n m)
    | rt d =>
      refine fun R' σ' H' x m q => h R' σ' H' x (Ns.trans e n m) ?_
      cases d with
      | dat d => exact q
      | new o =>
        obtain ⟨p, h1, h2, h3⟩ := q
        refine ⟨p, h1, h2, ?_⟩
        rcases h3 with h3 | h3
        · exact .inl (al_none n.al h3)
        · exact (n.ownF p h3).symm

/-! ### a def's promise -/
abbrev Fn := List Sl → Option (R3 Fr)
def RetR (R : RC) (sl : List Sl) (vs : List V) (H : Hp) (Q : VK) (E : XK) : R3 Fr → Prop
  | .ok (.dat d) sl' => ∀ x H', Nx R sl (vs.map some) H R sl' H' → DR R H' d x → Q x H'
  | .ok (.new o) sl' => ∀ p H', H p = none → Ny R sl (vs.map some) H (R.wth p) sl' H' → OwR (R.wth p) H' o p → Q (.ref p) H'
  | .ex x sl' => ∀ H' cls d, Nx R sl (vs.map some) H R sl' H' → ExR R H' x cls d → E cls d H'
def spF (K : PySem.W.Frag) (F : Fn) : Sp := fun vs H Q E => ∃ R sl r, R.K = K ∧ EnR R H sl (vs.map some) ∧ F sl = some r ∧ RetR R sl vs H Q E r
/-- a def that does what F says, where no repr runs -/
structure FnG (P : Program) (w : World) (K : PySem.W.Frag) (mg : Str → Option Value) (base : Heap) (k : Nat) (f : Addr) (fd : FuncData) (ps : List Str) (F : Fn) : Prop where
  len : ∀ sl r, F sl = some r → sl.length = ps.length
  run : ∀ (A : Around) (outer : List Env) (s : Shared) (H : Hp) (args : Args) (us : List Value) (vs : List V) (Q : VK) (E : XK), Room k A → A.guards = some [] → Env0 P w K mg base A outer s H → BindsTo s fd args (ps.zip us) → Vals vs us → spF K F vs H Q E →
    codeAny (model P w) A (.call (.ref f) args) (CR (L2.CX P w) outer P w H s Q E) s

/-! ### a call: what is lent, and back again -/
def lend1 (ρ : En) : Hd → Option Sl
  | .val d => some (.v d)
  | .slot i => match ρ[i]? with
    | some (.own _ o) => some (.own true o)
    | some (.v d) => some (.v d)
    | _ => none
def lend (ρ : En) : List Hd → Option (List Sl)
  | [] => some []
  | h :: hs => match lend1 ρ h, lend ρ hs with
    | some s, some sl => some (s :: sl)
    | _, _ => none
def slotIn (i : Nat) : List Hd → Bool
  | [] => false
  | .val _ :: hs => slotIn i hs
  | .slot j :: hs => i == j || slotIn i hs
def apart : List Hd → Bool
  | [] => true
  | .val _ :: hs => apart hs
  | .slot j :: hs => !slotIn j hs && apart hs
def back : En → List Hd → List Sl → Option En
  | ρ, [], [] => some ρ
  | ρ, .val _ :: hs, _ :: sl => back ρ hs sl
  | ρ, .slot i :: hs, s :: sl => match ρ[i]?, s with
    | some (.own l _), .own true o => back (ρ.set i (.own l o)) hs sl
    | some (.v _), .v _ => back ρ hs sl
    | _, _ => none
  | _, _, _ => none
def callF (F : Fn) (hs : List Hd) : Mo Fr := fun ρ => match lend ρ hs, apart hs with
  | some sl, true => match F sl with
    | some (.ok d sl') => (back ρ hs sl').map fun ρ' => .ok d ρ'
    | some (.ex x sl') => (back ρ hs sl').map fun ρ' => .ex x ρ'
    | none => none
  | _, _ => none

theorem slotIn_mem {i : Nat} : ∀ {hs : List Hd}, slotIn i hs = true ↔ Hd.slot i ∈ hs
  | [] => by simp [slotIn]
  | .val _ :: hs => by simp [slotIn, slotIn_mem (hs := hs)]
  | .slot j :: hs => by simp [slotIn, slotIn_mem (hs := hs)]
theorem lend_get {ρ : En} : ∀ {hs : List Hd} {sl : List Sl} {k : Nat} {s : Sl}, lend ρ hs = some sl → sl[k]? = some s → ∃ h, hs[k]? = some h ∧ lend1 ρ h = some s
  | [], sl, k, s, e, q => by
    cases e
    simp at q
  | h :: hs, sl, k, s, e, q => by
    unfold lend at e
    cases h1 : lend1 ρ h with
    | none => simp [h1] at e
    | some s0 =>
      cases h2 : lend ρ hs with
      | none => simp [h1, h2] at e
      | some sl0 =>
        simp [h1, h2] at e
        subst e
        cases k with
        | zero =>
          simp at q
          subst q
          exact ⟨h, rfl, h1⟩
        | succ k =>
          obtain ⟨h', e1, e2⟩ := lend_get h2 (by simpa using q)
          exact ⟨h', by simpa using e1, e2⟩
theorem lend_len {ρ : En} : ∀ {hs : List Hd} {sl : List Sl}, lend ρ hs = some sl → sl.length = hs.length
  | [], sl, e => by
    cases e
    rfl
  | h :: hs, sl, e => by
    unfold lend at e
    cases h1 : lend1 ρ h with
    | none => simp [h1] at e
    | some s0 =>
      cases h2 : lend ρ hs with
      | none => simp [h1, h2] at e
      | some sl0 =>
        simp [h1, h2] at e
        subst e
        simp [lend_len h2]
theorem HdRs.len {R : RC} {H : Hp} {σ : St} : ∀ {hs : List Hd} {xs : List V}, HdRs R H σ hs xs → hs.length = xs.length
  | _, _, .nil => rfl
  | _, _, .cons _ t => by simp [HdRs.len t]
theorem HdRs.get {R : RC} {H : Hp} {σ : St} : ∀ {hs : List Hd} {xs : List V} {k : Nat} {h : Hd}, HdRs R H σ hs xs → hs[k]? = some h → ∃ x, xs[k]? = some x ∧ HdR R H σ h x
  | _, _, _, _, .nil, e => by simp at e
  | _, _, 0, _, .cons r _, e => by
    simp at e; subst e; exact ⟨_, rfl, r⟩
  | _, _, k + 1, h, .cons _ t, e => by
    obtain ⟨v, h1, h2⟩ := HdRs.get (k := k) (h := h) t (by simpa using e)
    exact ⟨v, by simpa using h1, h2⟩
theorem apart_ix : ∀ {hs : List Hd} {j k i : Nat}, apart hs = true → hs[j]? = some (.slot i) → hs[k]? = some (.slot i) → j = k
  | [], j, k, i, _, e, _ => by simp at e
  | h :: hs, 0, 0, i, _, _, _ => rfl
  | h :: hs, 0, k + 1, i, a, e1, e2 => by
    simp at e1 e2
    subst e1
    simp [apart] at a
    have : slotIn i hs = true := slotIn_mem.mpr (List.mem_of_getElem? e2)
    rw [a.1] at this; cases this
  | h :: hs, j + 1, 0, i, a, e1, e2 => by
    simp at e1 e2
    subst e2
    simp [apart] at a
    have : slotIn i hs = true := slotIn_mem.mpr (List.mem_of_getElem? e1)
    rw [a.1] at this; cases this
  | h :: hs, j + 1, k + 1, i, a, e1, e2 => by
    have a' : apart hs = true := by
      cases h with
      | val d => simpa [apart] using a
      | slot n => simp [apart] at a; exact a.2
    have z : j = k := apart_ix (i := i) a' (by simpa using e1) (by simpa using e2)
    rw [z]
/-- the arguments as the callee has them -/
theorem lend_en {R : RC} {H : Hp} {ρ : En} {σ : St} {hs : List Hd} {xs : List V} {sl : List Sl} (e : EnR R H ρ σ) (r : HdRs R H σ hs xs) (l : lend ρ hs = some sl) (ap : apart hs = true) : EnR R H sl (xs.map some) where
  len := by rw [List.length_map, lend_len l, r.len]
  sl := fun k s q => by
    obtain ⟨h, h1, h2⟩ := lend_get l q
    obtain ⟨x, h3, h4⟩ := r.get h1
    refine ⟨some x, by rw [List.getElem?_map, h3]; rfl, ?_⟩
    cases h with
    | val d =>
      cases h2
      exact ⟨x, rfl, h4⟩
    | slot i =>
      have h4' : σ[i]? = some (some x) := h4
      unfold lend1 at h2
      cases hs1 : ρ[i]? with
      | none => simp [hs1] at h2
      | some s1 =>
        obtain ⟨y, g1, g2⟩ := e.sl i s1 hs1
        rw [h4'] at g1
        cases g1
        cases s1 with
        | no => simp [hs1] at h2
        | v d =>
          simp [hs1] at h2
          subst h2
          exact g2
        | own l o =>
          simp [hs1] at h2
          subst h2
          exact g2
  ap := fun i j l1 m o u hij hi hj => by
    obtain ⟨h, h1, h2⟩ := lend_get l hi
    obtain ⟨h', h3, h4⟩ := lend_get l hj
    obtain ⟨x, g1, g2⟩ := r.get h1
    obtain ⟨y, g3, g4⟩ := r.get h3
    cases h with
    | val d => cases h2
    | slot n =>
      cases h' with
      | val d => cases h4
      | slot n' =>
        have hn : n ≠ n' := fun z => by
          subst z
          exact hij (apart_ix ap h1 h3)
        have ow : ∀ {n : Nat} {l1 : Bool} {o : Ow}, lend1 ρ (.slot n) = some (.own l1 o) → ∃ l2, ρ[n]? = some (.own l2 o) := fun {n l1 o} z => by
          unfold lend1 at z
          cases hs1 : ρ[n]? with
          | none => simp [hs1] at z
          | some s1 =>
            cases s1 with
            | no => simp [hs1] at z
            | v d => simp [hs1] at z
            | own l2 o2 =>
              simp [hs1] at z
              exact ⟨l2, by rw [z.2]⟩
        obtain ⟨l2, k1⟩ := ow h2
        obtain ⟨l3, k2⟩ := ow h4
        have z := e.ap n n' l2 l3 o u hn k1 k2
        have g2' : σ[n]? = some (some x) := g2
        have g4' : σ[n']? = some (some y) := g4
        rw [g2', g4'] at z
        rw [List.getElem?_map, List.getElem?_map, g1, g3]
        exact z
  tr := e.tr
theorem back_get {sl0 : List Sl} : ∀ {hs : List Hd} {ρ ρ' : En} {sl : List Sl}, back ρ hs sl = some ρ' → apart hs = true → ρ'.length = ρ.length ∧ ∀ (j : Nat) (s : Sl), ρ'[j]? = some s →
    (ρ[j]? = some s ∧ ∀ l o, s = .own l o → slotIn j hs = false) ∨ ∃ (k : Nat) (l : Bool) (o u : Ow), hs[k]? = some (.slot j) ∧ sl[k]? = some (.own true o) ∧ s = .own l o ∧ ρ[j]? = some (.own l u)
  | [], ρ, ρ', sl, b, a => by
    cases sl with
    | nil =>
      cases b
      exact ⟨rfl, fun j s e => .inl ⟨e, fun _ _ _ => rfl⟩⟩
    | cons x sl => cases b
  | .val d :: hs, ρ, ρ', sl, b, a => by
    cases sl with
    | nil => cases b
    | cons s0 sl =>
      obtain ⟨h1, h2⟩ := back_get (sl0 := sl0) (hs := hs) (ρ := ρ) (ρ' := ρ') (sl := sl) b (by simpa [apart] using a)
      refine ⟨h1, fun j s e => ?_⟩
      rcases h2 j s e with h | ⟨k, l, o, u, e1, e2, e3, e4⟩
      · exact .inl ⟨h.1, fun l o z => by simpa [slotIn] using h.2 l o z⟩
      · exact .inr ⟨k + 1, l, o, u, by simpa using e1, by simpa using e2, e3, e4⟩
  | .slot i :: hs, ρ, ρ', sl, b, a => by
    cases sl with
    | nil => cases b
    | cons s0 sl =>
      have a' : slotIn i hs = false ∧ apart hs = true := by simpa [apart] using a
      unfold back at b
      cases hr : ρ[i]? with
      | none => simp [hr] at b
      | some t =>
        cases t with
        | no => simp [hr] at b
        | v d =>
          cases s0 with
          | no => simp [hr] at b
          | own l o => simp [hr] at b
          | v d' =>
            simp [hr] at b
            obtain ⟨h1, h2⟩ := back_get (sl0 := sl0) (hs := hs) b a'.2
            refine ⟨h1, fun j s e => ?_⟩
            rcases h2 j s e with h | ⟨k, l, o, u, e1, e2, e3, e4⟩
            · refine .inl ⟨h.1, fun l o z => ?_⟩
              have z2 := h.2 l o z
              by_cases hji : j = i
              · subst hji
                rw [hr] at h
                rw [z] at h
                cases h.1
              · simp [slotIn, z2, hji]
            · exact .inr ⟨k + 1, l, o, u, by simpa using e1, by simpa using e2, e3, e4⟩
        | own l o =>
          cases s0 with
          | no => simp [hr] at b
          | v d => simp [hr] at b
          | own l' o' =>
            cases l' with
            | false => simp [hr] at b
            | true =>
              simp [hr] at b
              obtain ⟨h1, h2⟩ := back_get (sl0 := sl0) (hs := hs) b a'.2
              refine ⟨by simpa using h1, fun j s e => ?_⟩
              rcases h2 j s e with ⟨g1, g2⟩ | ⟨k, l1, o1, u, e1, e2, e3, e4⟩
              · rcases set_get g1 with ⟨rfl, rfl, _⟩ | ⟨hne, g1⟩
                · exact .inr ⟨0, l, o', o, rfl, rfl, rfl, hr⟩
                · refine .inl ⟨g1, fun l1 o1 z => ?_⟩
                  simp [slotIn, g2 l1 o1 z, Ne.symm hne]
              · have hne : i ≠ j := fun z => by
                  subst z
                  have := slotIn_mem.mpr (List.mem_of_getElem? e1)
                  rw [a'.1] at this; cases this
                rcases set_get e4 with ⟨z, _⟩ | ⟨_, e4⟩
                · exact absurd z hne
                · exact .inr ⟨k + 1, l1, o1, u, by simpa using e1, by simpa using e2, e3, e4⟩
/-- behind the call -/
theorem back_ny {R R' : RC} {H H' : Hp} {ρ ρ' : En} {σ : St} {hs : List Hd} {xs : List V} {sl sl' : List Sl} (e : EnR R H ρ σ) (r : HdRs R H σ hs xs) (l : lend ρ hs = some sl) (ap : apart hs = true)
    (n : Ny R sl (xs.map some) H R' sl' H') (b : back ρ hs sl' = some ρ') : Ny R ρ σ H R' ρ' H' := by
  obtain ⟨bl, bg⟩ := back_get (sl0 := sl) b ap
  have le := lend_en e r l ap
  have t : To R H R' H' := n.to le
  -- what the callee owns is owned here
  have ow : ∀ {n : Nat} {l1 : Bool} {o : Ow}, lend1 ρ (.slot n) = some (.own l1 o) → ∃ l2, ρ[n]? = some (.own l2 o) := fun {n l1 o} z => by
    unfold lend1 at z
    cases hs1 : ρ[n]? with
    | none => simp [hs1] at z
    | some s1 =>
      cases s1 with
      | no => simp [hs1] at z
      | v d => simp [hs1] at z
      | own l2 o2 =>
        simp [hs1] at z
        exact ⟨l2, by rw [z.2]⟩
  have up : ∀ a, Owns sl (xs.map some) a → ∃ (i k : Nat) (l2 : Bool) (o : Ow), hs[k]? = some (.slot i) ∧ ρ[i]? = some (.own l2 o) ∧ σ[i]? = some (some (.ref a)) := fun a ⟨k, l1, o, h1, h2⟩ => by
    obtain ⟨h, h3, h4⟩ := lend_get l h1
    obtain ⟨x, h5, h6⟩ := r.get h3
    rw [List.getElem?_map, h5] at h2
    cases h2
    cases h with
    | val d => cases h4
    | slot i =>
      obtain ⟨l2, k1⟩ := ow h4
      exact ⟨i, k, l2, o, h3, k1, h6⟩
  have upO : ∀ a, Owns sl (xs.map some) a → Owns ρ σ a := fun a h => by
    obtain ⟨i, k, l2, o, _, h2, h3⟩ := up a h
    exact ⟨i, l2, o, h2, h3⟩
  have sh : ∀ (j : Nat) (l1 : Bool) (o : Ow), ρ'[j]? = some (.own l1 o) → ∃ u, ρ[j]? = some (.own l1 u) := fun j l1 o h => by
    rcases bg j _ h with ⟨h1, _⟩ | ⟨k, l2, o2, u, _, _, h3, h4⟩
    · exact ⟨o, h1⟩
    · cases h3
      exact ⟨u, h4⟩
  refine ⟨⟨by rw [bl]; exact e.len, fun j s hj => ?_, fun i j l1 m o u hij hi hj => ?_, n.en.tr⟩, n.k, n.m, fun a h => (n.cov a h).imp_right (upO a), n.h.mono upO, sh, n.al⟩
  · rcases bg j s hj with ⟨h1, h2⟩ | ⟨k, l2, o2, u, h1, h2, h3, h4⟩
    · obtain ⟨y, h3, h4⟩ := e.sl j s h1
      refine ⟨y, h3, ?_⟩
      cases s with
      | no => trivial
      | v d =>
        obtain ⟨x, h5, h6⟩ := h4
        exact ⟨x, h5, h6.to t⟩
      | own l1 o =>
        obtain ⟨a, h5, h6⟩ := h4
        have no : ¬ Owns sl (xs.map some) a := fun z => by
          obtain ⟨i, k, l2, o2, g1, g2, g3⟩ := up a z
          have hne : j ≠ i := fun q => by
            subst q
            have := slotIn_mem.mpr (List.mem_of_getElem? g1)
            rw [h2 _ _ rfl] at this; cases this
          exact e.ap j i l1 l2 o o2 hne h1 g2 (by rw [h3, h5, g3])
        refine ⟨a, h5, h6.to t ((n.cov a h6.m).resolve_right no) ?_⟩
        obtain ⟨ob, h7⟩ := e.tr a h6.m
        rw [h7]
        exact n.h a ob h7 no
    · obtain ⟨y, h5, h6⟩ := n.en.sl k _ h2
      obtain ⟨a, h7, h8⟩ := h6
      obtain ⟨x, h9, h10⟩ := r.get h1
      rw [List.getElem?_map, h9] at h5
      subst h7
      cases h5
      subst h3
      exact ⟨_, h10, a, rfl, h8⟩
  · obtain ⟨o', h1⟩ := sh i l1 o hi
    obtain ⟨u', h2⟩ := sh j m u hj
    exact e.ap i j l1 m o' u' hij h1 h2
theorem callF_ok {K : PySem.W.Frag} {W : WX} {F : Fn} {g : Mo (List Hd)} {σ : St} {H : Hp} {Q : VK} (h : tN K W (Mo.bind g fun hs => callF F hs) σ H Q) :
    tAs K W g σ H fun xs H1 => spF K F xs H1 Q (fun cls d H' => W cls d σ H') := by
  obtain ⟨R, ρ, rr, hk, e, hf, q⟩ := h
  rcases bind_ok hf with ⟨hs, ρ1, h1, h2⟩ | ⟨x, ρ1, h1, rfl⟩
  · refine ⟨R, ρ, _, hk, e, h1, fun R1 xs H1 n1 r1 => ?_⟩
    unfold callF at h2
    cases hl : lend ρ1 hs with
    | none => simp [hl] at h2
    | some sl =>
      cases ha : apart hs with
      | false => simp [hl, ha] at h2
      | true =>
        cases hF : F sl with
        | none => simp [hl, ha, hF] at h2
        | some r =>
          refine ⟨R1, sl, r, n1.k.trans hk, lend_en n1.en r1 hl ha, hF, ?_⟩
          cases r with
          | ok fr sl' =>
            cases hb : back ρ1 hs sl' with
            | none => simp [hl, ha, hF, hb] at h2
            | some ρ2 =>
              simp [hl, ha, hF, hb] at h2
              subst h2
              cases fr with
              | dat d =>
                intro x H' n dr
                exact q R1 x H' (n1.ny.trans (back_ny n1.en r1 hl ha n.ny hb)) dr
              | new o =>
                intro p H' hp n ow
                have n2 := back_ny n1.en r1 hl ha n hb
                refine q _ _ H' (n1.ny.trans n2) ⟨p, rfl, ow, fun z => ?_, none_of n1.al hp⟩
                obtain ⟨o, z⟩ := n1.en.tr p (n1.en.own_m (n2.owns z))
                rw [hp] at z; cases z
          | ex x sl' =>
            cases hb : back ρ1 hs sl' with
            | none => simp [hl, ha, hF, hb] at h2
            | some ρ2 =>
              simp [hl, ha, hF, hb] at h2
              subst h2
              intro H' cls d n dr
              have n2 := back_ny n1.en r1 hl ha n.ny hb
              exact q R1 H' cls d (n1.trans (n2.nx fun _ h => h)) dr
  · exact ⟨R, ρ, _, hk, e, h1, q⟩
end Mi
set_option Elab.async false
set_option linter.all false
set_option maxRecDepth 100000
set_option maxHeartbeats 2000000
/-! M4: a def by its body, a call -/
namespace Mi
open PySem L2

/-! ### a def by its body -/
def isLent : Sl → Bool
  | .own false _ => false
  | _ => true
def outSl : List Sl → En → Option (List Sl)
  | [], _ => some []
  | s :: sl, [] => none
  | .own _ _ :: sl, .own true o :: ρ => (outSl sl ρ).map fun r => .own true o :: r
  | .own _ _ :: sl, _ :: ρ => none
  | s :: sl, _ :: ρ => (outSl sl ρ).map fun r => s :: r
def runF (n np : Nat) (f : Ms) : Fn := fun sl => match sl.length == np && sl.all isLent with
  | false => none
  | true => match f (sl ++ List.replicate (n - np) .no) with
    | some (.ok .nx ρ) => (outSl sl ρ).map fun r => .ok (.dat .non) r
    | some (.ok (.rt d) ρ) => (outSl sl ρ).map fun r => .ok d r
    | some (.ex x ρ) => (outSl sl ρ).map fun r => .ex x r
    | _ => none
theorem outSl_get : ∀ {sl : List Sl} {ρ : En} {r : List Sl}, outSl sl ρ = some r → r.length = sl.length ∧ ∀ (i : Nat) (s : Sl), r[i]? = some s →
    (sl[i]? = some s ∧ ∀ l o, s ≠ .own l o) ∨ ∃ (l : Bool) (u o : Ow), sl[i]? = some (.own l u) ∧ ρ[i]? = some (.own true o) ∧ s = .own true o
  | [], ρ, r, h => by
    cases h
    exact ⟨rfl, fun i s e => by simp at e⟩
  | s :: sl, [], r, h => by
    cases s <;> cases h
  | s :: sl, t :: ρ, r, h => by
    have rest : ∀ {r0 : List Sl} {s0 : Sl}, outSl sl ρ = some r0 → r = s0 :: r0 → ((s0 = s ∧ ∀ l o, s0 ≠ .own l o) ∨ ∃ (l : Bool) (u o : Ow), s = .own l u ∧ t = .own true o ∧ s0 = .own true o) →
        r.length = (s :: sl).length ∧ ∀ (i : Nat) (x : Sl), r[i]? = some x → ((s :: sl)[i]? = some x ∧ ∀ l o, x ≠ .own l o) ∨ ∃ (l : Bool) (u o : Ow), (s :: sl)[i]? = some (.own l u) ∧ (t :: ρ)[i]? = some (.own true o) ∧ x = .own true o := by
      intro r0 s0 h0 hr hs
      obtain ⟨h1, h2⟩ := outSl_get h0
      subst hr
      refine ⟨by simp [h1], fun i x e => ?_⟩
      cases i with
      | zero =>
        simp at e
        subst e
        rcases hs with ⟨e1, e2⟩ | ⟨l, u, o, e1, e2, e3⟩
        · exact .inl ⟨by simp [e1], e2⟩
        · exact .inr ⟨l, u, o, by simp [e1], by simp [e2], e3⟩
      | succ i => simpa using h2 i x (by simpa using e)
    cases s with
    | no =>
      unfold outSl at h
      cases h0 : outSl sl ρ with
      | none => simp [h0] at h
      | some r0 =>
        simp [h0] at h
        exact rest h0 h.symm (.inl ⟨rfl, fun _ _ z => by cases z⟩)
    | v d =>
      unfold outSl at h
      cases h0 : outSl sl ρ with
      | none => simp [h0] at h
      | some r0 =>
        simp [h0] at h
        exact rest h0 h.symm (.inl ⟨rfl, fun _ _ z => by cases z⟩)
    | own l u =>
      cases t with
      | no => unfold outSl at h; cases h
      | v d => unfold outSl at h; cases h
      | own l2 o =>
        cases l2 with
        | false => unfold outSl at h; cases h
        | true =>
          unfold outSl at h
          cases h0 : outSl sl ρ with
          | none => simp [h0] at h
          | some r0 =>
            simp [h0] at h
            exact rest h0 h.symm (.inr ⟨l, u, o, rfl, rfl, rfl⟩)
theorem outSl_own {sl : List Sl} {ρ : En} {r : List Sl} (h : outSl sl ρ = some r) {i : Nat} {l : Bool} {u : Ow} (hi : sl[i]? = some (.own l u)) : ∃ o, ρ[i]? = some (.own true o) := by
  obtain ⟨h1, h2⟩ := outSl_get h
  have hl : i < r.length := by rw [h1]; exact (List.getElem?_eq_some_iff.mp hi).1
  rcases h2 i r[i] (by simp [hl]) with ⟨e1, e2⟩ | ⟨l1, u1, o, _, e2, _⟩
  · rw [hi] at e1
    exact absurd (Option.some.inj e1).symm (e2 l u)
  · exact ⟨o, e2⟩

theorem start_get {N : List Str} {vs : List V} {i : Nat} (hi : i < vs.length) : (start N vs)[i]? = (vs.map some)[i]? := by
  unfold L2.start
  rw [List.getElem?_append_left (by simpa using hi)]
theorem start_en {R : RC} {H : Hp} {sl : List Sl} {N : List Str} {vs : List V} {np : Nat} (e : EnR R H sl (vs.map some)) (hl : sl.length = np) (hn : np ≤ N.length) : EnR R H (sl ++ List.replicate (N.length - np) .no) (start N vs) where
  len := by
    have := e.len
    rw [List.length_map] at this
    unfold L2.start
    simp only [List.length_append, List.length_replicate, List.length_map]
    omega
  sl := fun i s h => by
    have hlen := e.len
    rw [List.length_map] at hlen
    by_cases hi : i < sl.length
    · rw [List.getElem?_append_left hi] at h
      obtain ⟨y, h1, h2⟩ := e.sl i s h
      exact ⟨y, by rw [start_get (by omega)]; exact h1, h2⟩
    · rw [List.getElem?_append_right (by omega), List.getElem?_replicate] at h
      split at h
      · cases h
        refine ⟨none, ?_, trivial⟩
        unfold L2.start
        rw [List.getElem?_append_right (by rw [List.length_map]; omega), List.getElem?_replicate, if_pos (by rw [List.length_map]; omega)]
      · cases h
  ap := fun i j l m o u hij hi hj => by
    have hlen := e.len
    rw [List.length_map] at hlen
    have small : ∀ {i : Nat} {l : Bool} {o : Ow}, (sl ++ List.replicate (N.length - np) Sl.no)[i]? = some (.own l o) → i < sl.length ∧ sl[i]? = some (.own l o) := fun {i l o} h => by
      by_cases hi : i < sl.length
      · rw [List.getElem?_append_left hi] at h
        exact ⟨hi, h⟩
      · rw [List.getElem?_append_right (by omega), List.getElem?_replicate] at h
        split at h <;> cases h
    obtain ⟨a1, a2⟩ := small hi
    obtain ⟨b1, b2⟩ := small hj
    rw [start_get (by omega), start_get (by omega)]
    exact e.ap i j l m o u hij a2 b2
  tr := e.tr
theorem start_owns {sl : List Sl} {N : List Str} {vs : List V} {n : Nat} (hlen : sl.length = vs.length) {a : Addr} (h : Owns (sl ++ List.replicate n .no) (start N vs) a) : Owns sl (vs.map some) a := by
  obtain ⟨i, l, o, h1, h2⟩ := h
  by_cases hi : i < sl.length
  · rw [List.getElem?_append_left hi] at h1
    rw [start_get (by omega)] at h2
    exact ⟨i, l, o, h1, h2⟩
  · rw [List.getElem?_append_right (by omega), List.getElem?_replicate] at h1
    split at h1 <;> cases h1
theorem end_ny {R R' R2 : RC} {H H' : Hp} {sl sl' : List Sl} {N : List Str} {vs : List V} {ρ' : En} {σ' : St} {np : Nat} (e : EnR R H sl (vs.map some)) (hl : sl.length = np) (hn : np ≤ N.length) (hla : sl.all isLent = true)
    (n : Ns R (sl ++ List.replicate (N.length - np) .no) (start N vs) H R' ρ' σ' H') (o : outSl sl ρ' = some sl') (k2 : R2.K = R.K) (m1 : ∀ a, R.M a → R2.M a) (m2 : ∀ a, R2.M a → R.M a ∨ (R'.M a ∧ H a = none)) : Ny R sl (vs.map some) H R2 sl' H' ∧ To R' H' R2 H' := by
  have hlen := e.len
  rw [List.length_map] at hlen
  have es := start_en (N := N) e hl hn
  obtain ⟨o1, o2⟩ := outSl_get o
  have ent : ∀ {i : Nat} {l : Bool} {u : Ow}, sl[i]? = some (.own l u) → ∃ a ob, (vs.map some)[i]? = some (some (.ref a)) ∧ σ'[i]? = some (some (.ref a)) ∧ ρ'[i]? = some (.own true ob) ∧ R.M a ∧ OwR R' H' ob a := fun {i l u} h => by
    obtain ⟨ob, h1⟩ := outSl_own o h
    obtain ⟨_, h2⟩ := n.lent i ob h1
    obtain ⟨y, h3, a, h4, h5⟩ := e.sl i _ h
    subst h4
    have hi : i < vs.length := by
      have := (List.getElem?_eq_some_iff.mp h).1
      omega
    rw [start_get hi, h3] at h2
    obtain ⟨y', h6, a', h7, h8⟩ := n.en.sl i _ h1
    rw [h2] at h6
    cases h6
    cases h7
    exact ⟨a, ob, h3, h2, h1, h5.m, h8⟩
  have hm : ∀ a, R.M a → R'.M a := fun a h => by
    rcases n.cov a h with q | q
    · exact q
    · obtain ⟨i, l, u, h1, h2⟩ := start_owns hlen q
      obtain ⟨a', ob, h3, _, _, _, h6⟩ := ent h1
      rw [h2] at h3
      cases h3
      exact h6.m
  have t2 : To R' H' R2 H' := ⟨k2.trans n.k.symm, fun a h => .inl ((m2 a h).elim (hm a) fun z => z.1), Keep.refl⟩
  have t : To R H R2 H' := ⟨k2, fun a h => (m2 a h).imp_right fun z => z.2, n.h.mono fun a h => es.own_m h⟩
  refine ⟨⟨⟨by rw [o1]; exact e.len, fun i s h => ?_, fun i j l m ow u hij hi hj => ?_, fun a h => ?_⟩, k2, fun a h => (m2 a h).imp_right fun z => z.2, fun a h => .inl (m1 a h), n.h.mono fun a h => start_owns hlen h, fun i l ow h => ?_, n.al⟩, t2⟩
  · rcases o2 i s h with ⟨h1, h2⟩ | ⟨l, u, ob, h1, h2, h3⟩
    · obtain ⟨y, h3, h4⟩ := e.sl i s h1
      refine ⟨y, h3, ?_⟩
      cases s with
      | no => trivial
      | v d =>
        obtain ⟨x, h5, h6⟩ := h4
        exact ⟨x, h5, h6.to t⟩
      | own l ob => exact absurd rfl (h2 l ob)
    · obtain ⟨a, ob', h4, _, h6, h7, h8⟩ := ent h1
      rw [h2] at h6
      cases h6
      subst h3
      exact ⟨_, h4, a, rfl, h8.to t2 (m1 _ h7) rfl⟩
  · have ow' : ∀ {i : Nat} {l : Bool} {ow : Ow}, sl'[i]? = some (.own l ow) → ∃ l1 u1, sl[i]? = some (.own l1 u1) := fun {i l ow} h => by
      rcases o2 i _ h with ⟨_, h2⟩ | ⟨l1, u1, ob, h1, _, _⟩
      · exact absurd rfl (h2 l ow)
      · exact ⟨l1, u1, h1⟩
    obtain ⟨l1, u1, a1⟩ := ow' hi
    obtain ⟨l2, u2, a2⟩ := ow' hj
    exact e.ap i j l1 l2 u1 u2 hij a1 a2
  · rcases m2 a h with h | ⟨h, _⟩
    · obtain ⟨ob, h1⟩ := e.tr a h
      exact n.al a ob h1
    · exact n.en.tr a h
  · rcases o2 i _ h with ⟨_, h2⟩ | ⟨l1, u1, ob, h1, _, h3⟩
    · exact absurd rfl (h2 l ow)
    · cases h3
      have hb : isLent (.own l1 u1) = true := List.all_eq_true.mp hla _ (List.mem_of_getElem? h1)
      cases l1 with
      | true => exact ⟨u1, h1⟩
      | false => cases hb
theorem ExR.to {R R' : RC} {H H' : Hp} (t : To R H R' H') {x : Xc} {cls : Value} {d : Option Addr} (h : ExR R H x cls d) : ExR R' H' x cls d := by
  obtain ⟨h1, h2⟩ := h
  refine ⟨by rw [t.k]; exact h1, ?_⟩
  rcases h2 with h2 | ⟨dd, fs, h3, h4, h5, h6, h7⟩
  · exact .inl h2
  · refine .inr ⟨dd, fs, h3, t.h _ _ h4 h5, fun z => ?_, h6, h7.to t⟩
    rcases t.m dd z with q | q
    · exact h5 q
    · rw [h4] at q; cases q
section
variable {P : Program} {w : World} {K : PySem.W.Frag} {mg : Str → Option Value} {base : Heap} {k : Nat} {f : Addr}
/-- THE RULE for a def -/
theorem fnG_of {x qual : Str} {params : Arguments} {body : List Stmt} {scope : Scope} {dV kV doc pm cdv ct oc : Value} {an od : Option Addr} {osl : Array (Option Value)} {N ps : List Str} {fS : Ms}
    (lk : K.lookup f = some ⟨oc, od, .func (PySem.W.fnOf x qual params body scope dV kV doc pm an cdv ct), osl⟩) (hcd : PySem.W.codeIn K cdv qual = true) (S : FnScope N ps scope)
    (hb : ∀ (A : Around) (outer : List Env) (s : Shared) (H : Hp) (E : XK), Room k (A.deeper (PyProof.Rows.envOfC qual scope s.heap.objs.size f cdv)) → A.guards = some [] →
      PSs (cxOf (L2.CX P w) P w K mg base N qual scope f cdv A outer s H E) body (tS K (fun cls d _ H => E cls d H) fS)) :
    FnG P w K mg base (k + 1) f (PySem.W.fnOf x qual params body scope dV kV doc pm an cdv ct) ps (runF N.length ps.length fS) where
  len := fun sl r h => by
    unfold runF at h
    cases hc : sl.length == ps.length && sl.all isLent with
    | false => simp [hc] at h
    | true =>
      simp at hc
      exact hc.1
  run := fun A outer s H args us vs Q E hr hg e0 hbd r hsp => by
    obtain ⟨R, sl, rr, hk, e, hF, hq⟩ := hsp
    have hpl : ps.length ≤ N.length := by
      have := congrArg List.length S.pre
      rw [List.length_take] at this
      omega
    have hlen := e.len
    rw [List.length_map] at hlen
    unfold runF at hF
    cases hc : sl.length == ps.length && sl.all isLent with
    | false => simp [hc] at hF
    | true =>
      simp only [hc] at hF
      simp only [Bool.and_eq_true, beq_iff_eq] at hc
      obtain ⟨hl, hla⟩ := hc
      have hlv : vs.length = ps.length := by omega
      have hus : us.length = ps.length := by rw [← r.length]; exact hlv
      have KX : K.In s.heap := e0.mod.kin.keeps fun b o q => (e0.bs b o q).1
      have lim : s.heap.NoLimit := e0.mod.nolimit.keeps fun b o q => (e0.bs b o q).1
      have hkind : ∀ y ∈ ps.zip us, scope.names.lookup y.1 = some .local ∨ (scope.names.lookup y.1 = some .cell ∧ ((cellsFrom (s.heap.objs.size + 1) scope.names []).lookup y.1).isSome = true) := by
        rintro ⟨nm, v⟩ hy
        rcases S.par nm (List.of_mem_zip hy).1 with q | q
        · exact .inl q
        · exact .inr ⟨q, PySem.W.cellsFrom_some _ _ _ (.inl q)⟩
      refine codeAny_call_function hr.depth (KX _ _ lk) rfl S.co S.gen rfl (PySem.W.codeRec_of KX hcd) (hbd _ _ _ _ ?_)
      refine wpAny_newFunctionEnv_cells S.kind hkind fun en1 hen1 s1 x => ?_
      subst hen1
      refine ⟨lim.keeps x.toInCall.keep, codeAny_func ?_⟩
      have hroom : Room k (A.deeper (PyProof.Rows.envOfC qual scope s.heap.objs.size f cdv)) := hr.deeper _
      have I : Inv (cxOf (L2.CX P w) P w K mg base N qual scope f cdv A outer s H E) [] (start N vs) H s1 := inv_start S hr.hd e0 hlv r x
      have fin : ∀ {σ' : St} {H' : Hp} {v : V} {u : Value} {s' : Shared}, Inv (cxOf (L2.CX P w) P w K mg base N qual scope f cdv A outer s H E) [] σ' H' s' → RelV v u → Q v H' → CE outer P w H s Q u s' :=
        fun {σ' H' v u s'} J rv q => ⟨v, H', J.os, J.bare, J.base, J.hok, rv, q⟩
      have D : tS K (fun cls d _ H => E cls d H) fS { nx := fun _ H' => Q .non H', rt := Q } (start N vs) H := by
        cases hf : fS (sl ++ List.replicate (N.length - ps.length) .no) with
        | none => simp [hf] at hF
        | some z =>
          refine ⟨R, _, z, hk, start_en (N := N) e hl hpl, hf, ?_⟩
          cases z with
          | ex xc ρ' =>
            cases ho : outSl sl ρ' with
            | none => simp [hf, ho] at hF
            | some sl' =>
              simp [hf, ho] at hF
              subst hF
              intro R' σ' H' cls d n ex
              obtain ⟨n2, t2⟩ := end_ny e hl hpl hla n ho rfl (fun _ h => h) fun _ h => .inl h
              exact hq H' cls d (n2.nx fun _ h => h) (ex.to t2)
          | ok fl ρ' =>
            cases fl with
            | bk => simp [hf] at hF
            | ct => simp [hf] at hF
            | nx =>
              cases ho : outSl sl ρ' with
              | none => simp [hf, ho] at hF
              | some sl' =>
                simp [hf, ho] at hF
                subst hF
                intro R' σ' H' n
                obtain ⟨n2, t2⟩ := end_ny e hl hpl hla n ho rfl (fun _ h => h) fun _ h => .inl h
                exact hq .non H' (n2.nx fun _ h => h) .non
            | rt d =>
              cases ho : outSl sl ρ' with
              | none => simp [hf, ho] at hF
              | some sl' =>
                simp [hf, ho] at hF
                subst hF
                cases d with
                | dat d =>
                  intro R' σ' H' v n dr
                  obtain ⟨n2, t2⟩ := end_ny e hl hpl hla n ho rfl (fun _ h => h) fun _ h => .inl h
                  exact hq v H' (n2.nx fun _ h => h) (DR.to t2 dr)
                | new o =>
                  rintro R' σ' H' v n ⟨p, rfl, ow, hp0⟩
                  have hp : H p = none := hp0.resolve_right fun ⟨i, u, z, _⟩ => by
                    by_cases hi : i < sl.length
                    · rw [List.getElem?_append_left hi] at z
                      have hb : isLent (.own false u) = true := List.all_eq_true.mp hla _ (List.mem_of_getElem? z)
                      cases hb
                    · rw [List.getElem?_append_right (by omega), List.getElem?_replicate] at z
                      split at z <;> cases z
                  obtain ⟨n2, t2⟩ := end_ny (R2 := R.wth p) e hl hpl hla n ho rfl (fun _ h => .inl h) (by
                    rintro a (h | rfl)
                    · exact .inl h
                    · exact .inr ⟨ow.m, hp⟩)
                  exact hq p H' hp n2 (ow.to t2 (.inr rfl) rfl)
      refine wpAny_mono ((hb A outer s H E hroom hg).run [] s1 (start N vs) H _ I D) (fun fl s' hs => ?_) fun e s' hs => hs
      cases fl with
      | ret u =>
        obtain ⟨v, σ', H', J, rv, q⟩ := hs
        exact fin J rv q
      | next =>
        obtain ⟨σ', H', J, q⟩ := hs
        exact fin (v := V.non) (u := Value.none) J rfl q
      | brk => exact hs.elim fun _ z => z.elim fun _ z => z.2.elim
      | cont => exact hs.elim fun _ z => z.elim fun _ z => z.2.elim
end
/-! ### a call -/
section
variable {X : Cx} {k : Nat} {f : Addr} {fd : FuncData} {ps : List Str} {F : Fn} {W : WX} {x : Str} {p pos : Pos} {e : Expr} {es : List Expr} {g : Mo (List Hd)}
theorem run_fnG {pins : List (Addr × Obj)} {σ : St} {H : Hp} {s : Shared} {Q : VK} {us : List Value} {kw : List (Str × Value)} {ws : List Value} {vs : List V} (G : FnG X.prog X.w X.K X.mg X.base k f fd ps F) (hr : Room k X.A) (hg : X.A.guards = some []) (tk : Takes X W)
    (hb : ∀ s : Shared, X.K.In s.heap → ws.length = ps.length → BindsTo s fd ⟨us, kw⟩ (ps.zip ws)) (I : Inv X pins σ H s) (r : Vals vs ws) (h : spF X.K F vs H Q fun cls d H' => W cls d σ H') :
    wpAny (model X.prog X.w) X.A (call (.ref f) us kw) (EP X pins σ Q) X.xe s := by
  have hl : ws.length = ps.length := by
    obtain ⟨R, sl, rr, _, e, hF, _⟩ := h
    have h1 := G.len sl rr hF
    have h2 := e.len
    rw [List.length_map] at h2
    rw [← r.length, ← h2, h1]
  refine wpAny_call (codeAny_mono (G.run X.A X.stack s H ⟨us, kw⟩ ws vs Q _ hr hg I.env0 (hb s I.kIn hl) r h) fun z s' hq => ?_)
  cases z with
  | error ex => exact tk ex s' (XE.of_call I (fun _ _ _ q => q) hq)
  | ok fl =>
    cases fl with
    | ret u => exact I.after hq
    | next => exact False.elim hq
    | brk => exact False.elim hq
    | cont => exact False.elim hq
/-- f(e, ..) -/
theorem pe_callG (G : FnG X.prog X.w X.K X.mg X.base k f fd ps F) (hr : Room k X.A) (hg : X.A.guards = some []) (tk : Takes X W) (gl : Gl X x) (hm : X.mg x = some (.ref f)) (hk : PySem.W.keepIn X.K (.ref f) = true) (hb : Binds X.K fd ps [])
    (ha : PA X (e :: es) (tAs X.K W g)) (hdb : (x == ("__debug__" : Str)) = false) (he : starEach (e :: es) X.env = (false, eval e X.env) :: starEach es X.env) (hpl : (backTo pos (starEach es X.env)).any (·.1) = false) :
    PE X (.Call (.Name x p) (e :: es) [] pos) (tN X.K W (Mo.bind g fun hs => callF F hs)) := by
  refine ⟨fun pins s σ H Q I h => ?_⟩
  have h2 := callF_ok h
  refine wpAny_Call_Name_kw (ld_glob I gl hm ?_ hdb)
  refine PySem.W.callWith_K (h₀ := X.base) I.ok.mod.kin hk (thn (ha.run pos pins s σ H _ I h2) fun us s1 ⟨vs, H1, I1, r, q⟩ => ⟨I1.kIn, ?_⟩) he hpl
  exact run_fnG G hr hg tk (fun s hK hl => by
    have := hb s us hK (by simpa using hl)
    simpa using this) I1 r q
end
end Mi
set_option Elab.async false
set_option linter.all false
set_option maxRecDepth 100000
set_option maxHeartbeats 2000000
/-! M5: == of plain data -/
namespace Mi
open PySem L2

/-- all the same as far as both go, and of one length -/
def eqAll (f : D → D → Option Bool) : List D → List D → Option Bool
  | [], [] => some true
  | [], _ :: _ => some false
  | _ :: _, [] => some false
  | x :: xs, y :: ys => match f x y, eqAll f xs ys with
    | some a, some b => some (a && b)
    | _, _ => none
def eqF : Nat → D → D → Option Bool
  | 0, _, _ => none
  | n + 1, a, b => match a, b with
    | .lst xs, .lst ys => if xs.length == ys.length then eqAll (eqF n) xs ys else some false
    | .tup xs, .tup ys => eqAll (eqF n) xs ys
    | .non, .non => some true
    | .bl a, .bl b => some (a == b)
    | .bl a, .int j => some ((if a then 1 else 0) == j)
    | .int i, .bl b => some (i == (if b then 1 else 0))
    | .int i, .int j => some (i == j)
    | .str x, .str y => some (x == y)
    | .non, .bl _ => some false
    | .non, .int _ => some false
    | .non, .str _ => some false
    | .non, .lst _ => some false
    | .non, .tup _ => some false
    | .bl _, .non => some false
    | .bl _, .str _ => some false
    | .bl _, .lst _ => some false
    | .bl _, .tup _ => some false
    | .int _, .non => some false
    | .int _, .str _ => some false
    | .int _, .lst _ => some false
    | .int _, .tup _ => some false
    | .str _, .non => some false
    | .str _, .bl _ => some false
    | .str _, .int _ => some false
    | .str _, .lst _ => some false
    | .str _, .tup _ => some false
    | .lst _, .non => some false
    | .lst _, .bl _ => some false
    | .lst _, .int _ => some false
    | .lst _, .str _ => some false
    | .lst _, .tup _ => some false
    | .tup _, .non => some false
    | .tup _, .bl _ => some false
    | .tup _, .int _ => some false
    | .tup _, .str _ => some false
    | .tup _, .lst _ => some false
    | _, _ => none

def RC.z (R : RC) : RC := ⟨R.K, fun _ => False⟩
theorem to_z {R : RC} {H : Hp} : To R H R.z H := ⟨rfl, fun _ h => h.elim, Keep.refl⟩
theorem AR.z {R : RC} {H : Hp} {d : D} {x : V} (h : AR R H d x) : DR R.z H d x := by
  rcases h with h | ⟨o, a, rfl, rfl, h⟩
  · exact h.to to_z
  · have := h.dr to_z (fun z => z)
    cases o <;> exact this
theorem ARs.z {R : RC} {H : Hp} : ∀ {ds : List D} {xs : List V}, ARs R H ds xs → DRs R.z H ds xs
  | _, _, .nil => .nil
  | _, _, .cons a b => .cons a.z (ARs.z b)

theorem eqAll_fn {f : D → D → Option Bool} : ∀ {xs ys : List D} {e : Bool}, eqAll f xs ys = some e →
    ∃ g : Nat → Bool, (∀ (j : Nat) (x y : D), xs[j]? = some x → ys[j]? = some y → f x y = some (g j)) ∧ e = ((List.range (min xs.length ys.length)).all g && xs.length == ys.length)
  | [], [], e, h => by
    cases h
    exact ⟨fun _ => true, fun j x y h => by simp at h, rfl⟩
  | [], y :: ys, e, h => by
    cases h
    exact ⟨fun _ => true, fun j x y h => by simp at h, by simp⟩
  | x :: xs, [], e, h => by
    cases h
    exact ⟨fun _ => true, fun j x y _ h => by simp at h, by simp⟩
  | x :: xs, y :: ys, e, h => by
    unfold eqAll at h
    cases h1 : f x y with
    | none => simp [h1] at h
    | some a =>
      cases h2 : eqAll f xs ys with
      | none => simp [h1, h2] at h
      | some b =>
        simp [h1, h2] at h
        obtain ⟨g, g1, g2⟩ := eqAll_fn h2
        refine ⟨fun j => match j with | 0 => a | j + 1 => g j, fun j x' y' e1 e2 => ?_, ?_⟩
        · cases j with
          | zero =>
            simp at e1 e2
            subst e1 e2
            exact h1
          | succ j => exact g1 j x' y' (by simpa using e1) (by simpa using e2)
        · rw [← h, g2]
          have hm : min (x :: xs).length (y :: ys).length = min xs.length ys.length + 1 := by simp [Nat.succ_min_succ]
          rw [hm, List.range_succ_eq_map, List.all_cons, List.all_map]
          have : (fun j => match j with | 0 => a | j + 1 => g j) ∘ Nat.succ = g := rfl
          simp only [Function.comp_def, List.length_cons]
          simp [Bool.and_assoc]
theorem eqAll_same {f : D → D → Option Bool} (hf : ∀ x e, f x x = some e → e = true) : ∀ {xs : List D} {e : Bool}, eqAll f xs xs = some e → e = true
  | [], e, h => by
    cases h
    rfl
  | x :: xs, e, h => by
    unfold eqAll at h
    cases h1 : f x x with
    | none => simp [h1] at h
    | some a =>
      cases h2 : eqAll f xs xs with
      | none => simp [h1, h2] at h
      | some b =>
        simp [h1, h2] at h
        rw [← h, hf _ _ h1, eqAll_same hf h2]
        rfl
theorem eqF_same : ∀ {n : Nat} {x : D} {e : Bool}, eqF n x x = some e → e = true
  | 0, x, e, h => by cases h
  | n + 1, x, e, h => by
    cases x with
    | lst xs => simp only [eqF, beq_self_eq_true, if_true] at h; exact eqAll_same (fun _ _ q => eqF_same q) h
    | tup xs => simp only [eqF] at h; exact eqAll_same (fun _ _ q => eqF_same q) h
    | dct kvs => simp [eqF] at h
    | frz xs => simp [eqF] at h
    | ref l => simp [eqF] at h
    | non => simpa [eqF] using h.symm
    | bl b => simpa [eqF] using h.symm
    | int i => simpa [eqF] using h.symm
    | str s => simpa [eqF] using h.symm

/-! ### what stands there -/
inductive Fm (R : RC) (H : Hp) (s : Shared) : D → Value → Prop
  | non : Fm R H s .non .none
  | bl (b : Bool) : Fm R H s (.bl b) (.bool b)
  | int (i : Int) (t : Tok) : Fm R H s (.int i) (.int i t)
  | str (x : List Nat) (t : Tok) : Fm R H s (.str x) (.str ⟨x.toArray⟩ t)
  | lst {a : Addr} {its : List Value} {xs : List V} {ds : List D} : s.heap.IsList a its.toArray → Vals xs its → DRs R H ds xs → Fm R H s (.lst ds) (.ref a)
  | tup {a : Addr} {its : List Value} {xs : List V} {ds : List D} : s.heap.IsTuple a its.toArray → Vals xs its → DRs R H ds xs → Fm R H s (.tup ds) (.ref a)
  | frz {u : Value} {ds : List D} : Fm R H s (.frz ds) u
  | dct {u : Value} {ds : List (D × D)} : Fm R H s (.dct ds) u
section
variable {X : Cx} {pins : List (Addr × Obj)} {σ : St} {H : Hp} {s : Shared} {R : RC}
theorem form_of (I : Inv X pins σ H s) (hK : R.K = X.K) {d : D} {x : V} {u : Value} (r : DR R H d x) (q : RelV x u) : Fm R H s d u := by
  cases r with
  | non => cases q; exact .non
  | bl b => cases q; exact .bl b
  | int i => obtain ⟨t, rfl⟩ := q; exact .int i t
  | str y => obtain ⟨t, rfl⟩ := q; exact .str y t
  | lst h1 h2 =>
    cases q
    obtain ⟨its, r, p, z⟩ := I.list (by rw [← hK]; exact h1.sq)
    exact .lst p.isList r h2
  | tup h1 h2 =>
    cases q
    obtain ⟨its, r, p, z⟩ := I.tuple (by rw [← hK]; exact h1.sq)
    exact .tup p r h2
  | frz h1 h2 => exact .frz
  | dct h1 h2 h3 => exact .dct
theorem arr_inj {a b : List Nat} (h : (⟨a.toArray⟩ : Str) = ⟨b.toArray⟩) : a = b := by
  have h1 : a.toArray = b.toArray := congrArg Str.cps h
  simpa using congrArg Array.toList h1
theorem DR.inv_str {z : Str} {d : D} (h : DR R H d (.str z)) : ∃ c, d = .str c ∧ z = ⟨c.toArray⟩ := by
  generalize hx : V.str z = x at h
  cases h <;> cases hx
  exact ⟨_, rfl, rfl⟩
theorem str_beq {a b : List Nat} : ((⟨a.toArray⟩ : Str) == ⟨b.toArray⟩) = (a == b) := by
  by_cases h : a = b
  · subst h
    simp
  · have h2 : ¬ (⟨a.toArray⟩ : Str) = ⟨b.toArray⟩ := fun z => h (arr_inj z)
    rw [beq_eq_false_iff_ne.mpr h, beq_eq_false_iff_ne.mpr h2]
theorem eqAll_one {f : D → D → Option Bool} (hf : ∀ d d' v e, f d d' = some e → DR R H d v → DR R H d' v → e = true) : ∀ {xs ys : List D} {vs : List V} {e : Bool}, eqAll f xs ys = some e → DRs R H xs vs → DRs R H ys vs → e = true
  | [], ys, vs, e, h, r, g => by
    cases r
    cases g
    cases h
    rfl
  | x :: xs, _, _, e, h, .cons a b, .cons c d => by
    unfold eqAll at h
    rename_i y ys _ _
    cases h1 : f x y with
    | none => simp [h1] at h
    | some p =>
      cases h2 : eqAll f xs ys with
      | none => simp [h1, h2] at h
      | some q =>
        simp [h1, h2] at h
        rw [← h, hf _ _ _ _ h1 a c, eqAll_one hf h2 b d]
        rfl
theorem eq_one (I : Inv X pins σ H s) (hK : R.K = X.K) : ∀ (n : Nat) (d d' : D) (v : V) (e : Bool), eqF n d d' = some e → DR R H d v → DR R H d' v → e = true
  | 0, _, _, _, _, h, _, _ => by cases h
  | n + 1, d, d', v, e, h, r, q => by
    cases v with
    | non => cases r; cases q; simpa [eqF] using h.symm
    | bl b => cases r; cases q; simpa [eqF] using h.symm
    | int i => cases r; cases q; simpa [eqF] using h.symm
    | str z =>
      obtain ⟨c, rfl, e1⟩ := r.inv_str
      obtain ⟨c', rfl, e2⟩ := q.inv_str
      have := arr_inj (e1.symm.trans e2)
      subst this
      simpa [eqF] using h.symm
    | ref a =>
      cases r with
      | lst h1 h2 =>
        cases q with
        | lst g1 g2 =>
          have z := h1.1.symm.trans g1.1
          cases z
          simp only [eqF] at h
          split at h
          · exact eqAll_one (eq_one I hK n) h h2 g2
          · rename_i hn
            rw [h2.len, g2.len] at hn
            simp at hn
        | tup g1 g2 =>
          obtain ⟨_, _, p, _⟩ := I.tuple (by rw [← hK]; exact g1.sq)
          obtain ⟨_, _, q, _⟩ := I.list (by rw [← hK]; exact h1.sq)
          obtain ⟨o, e1, c1, _⟩ := p
          obtain ⟨o2, n2, e2, c2, _⟩ := q
          rw [e1] at e2
          cases e2
          rw [c1] at c2
          exact absurd c2 (by decide)
        | frz g1 g2 => simp [eqF] at h
        | dct g1 g2 g3 => simp [eqF] at h
      | tup h1 h2 =>
        cases q with
        | tup g1 g2 =>
          have z := I.tuple_inj (by rw [← hK]; exact h1.sq) (by rw [← hK]; exact g1.sq)
          cases z
          simp only [eqF] at h
          exact eqAll_one (eq_one I hK n) h h2 g2
        | lst g1 g2 =>
          obtain ⟨_, _, p, _⟩ := I.tuple (by rw [← hK]; exact h1.sq)
          obtain ⟨_, _, q, _⟩ := I.list (by rw [← hK]; exact g1.sq)
          obtain ⟨o, e1, c1, _⟩ := p
          obtain ⟨o2, n2, e2, c2, _⟩ := q
          rw [e1] at e2
          cases e2
          rw [c1] at c2
          exact absurd c2 (by decide)
        | frz g1 g2 => simp [eqF] at h
        | dct g1 g2 g3 => simp [eqF] at h
      | frz h1 h2 => simp [eqF] at h
      | dct h1 h2 h3 => simp [eqF] at h
    | byt b => cases r
    | flt b => cases r
    | ty b => cases r
theorem RelV.inj2 {a : Addr} {x y : V} (r : RelV x (.ref a)) (q : RelV y (.ref a)) : x = y := RelV.inj r q
/-- what is asked of the items -/
def EqAtN (X : Cx) (R : RC) (H : Hp) (s : Shared) (n : Nat) : Prop := ∀ (A : Around) (a b : D) (x y : V) (u v : Value) (e : Bool), A.units + n < cLine → eqF n a b = some e → DR R H a x → DR R H b y → RelV x u → RelV y v → SeqAt.EqAt A s u v e
theorem items_eq {n : Nat} {A : Around} (ih : EqAtN X R H s n) (hu : A.units + n < cLine) {ds es : List D} {xs ys : List V} {its its2 : List Value} (va : Vals xs its) (vb : Vals ys its2) (da : DRs R H ds xs) (db : DRs R H es ys)
    {g : Nat → Bool} (hg : ∀ (j : Nat) (x y : D), ds[j]? = some x → es[j]? = some y → eqF n x y = some (g j)) (j : Nat) (h1 : j < its.toArray.size) (h2 : j < its2.toArray.size) : SeqAt.EqAt A s its.toArray[j] its2.toArray[j] (g j) := by
  simp only [List.size_toArray] at h1 h2
  have l1 := va.length
  have l2 := vb.length
  have e1 : xs[j]? = some xs[j] := by simp [l1, h1]
  have e2 : ys[j]? = some ys[j] := by simp [l2, h2]
  obtain ⟨d, k1, k2⟩ := da.getV e1
  obtain ⟨d', k3, k4⟩ := db.getV e2
  obtain ⟨u, m1, m2⟩ := va.get e1
  obtain ⟨v, m3, m4⟩ := vb.get e2
  have z1 : its[j] = u := by
    rw [List.getElem?_eq_getElem h1] at m1
    exact Option.some.inj m1
  have z2 : its2[j] = v := by
    rw [List.getElem?_eq_getElem h2] at m3
    exact Option.some.inj m3
  simp only [List.getElem_toArray]
  rw [z1, z2]
  exact ih A d d' _ _ u v (g j) hu (hg j d d' k1 k3) k2 k4 m2 m4
theorem in1_units {A : Around} {n : Nat} (hu : A.units + (n + 1) < cLine) : A.in1.units + n < cLine := by
  show A.units + 1 + n < cLine
  omega
theorem rc_lists (I : Inv X pins σ H s) (hK : R.K = X.K) {n : Nat} {A : Around} (ih : EqAtN X R H s n) (hu : A.units + (n + 1) < cLine) {a1 a2 : Addr} {ds es : List D} {xs ys : List V} {its its2 : List Value} {e : Bool} (pa : s.heap.IsList a1 its.toArray) (pb : s.heap.IsList a2 its2.toArray) (va : Vals xs its) (vb : Vals ys its2) (da : DRs R H ds xs) (db : DRs R H es ys)
    (h : eqF (n + 1) (.lst ds) (.lst es) = some e) : SeqAt.RcAt A s (.ref a1) (.ref a2) e ∧ SeqAt.RcNeAt A s (.ref a1) (.ref a2) (!e) := by
  have l1 := va.length
  have l2 := vb.length
  have l3 := da.len
  have l4 := db.len
  have hu0 : A.units < cLine := by omega
  simp only [eqF] at h
  split at h
  · rename_i hl
    have hl' : ds.length = es.length := by simpa using hl
    obtain ⟨g, g1, g2⟩ := eqAll_fn h
    have hs : its.toArray.size = its2.toArray.size := by simp only [List.size_toArray]; omega
    have hm : e = (List.range its.toArray.size).all g := by
      rw [g2]
      have : min ds.length es.length = its.toArray.size := by simp only [List.size_toArray]; omega
      rw [this]
      simp [hl']
    rw [hm]
    exact ⟨SeqAt.RcAt.lists pa pb hs hu0 fun j h1 h2 => items_eq ih (in1_units hu) va vb da db g1 j h1 h2, SeqAt.RcNeAt.lists pa pb hs hu0 fun j h1 h2 => items_eq ih (in1_units hu) va vb da db g1 j h1 h2⟩
  · rename_i hl
    have hl' : ¬ ds.length = es.length := by simpa using hl
    cases h
    have hs : (its.toArray.size != its2.toArray.size) = true := by
      simp only [List.size_toArray, bne_iff_ne, ne_eq]
      omega
    exact ⟨SeqAt.RcAt.lists_lengths pa pb hs hu0, SeqAt.RcNeAt.lists_lengths pa pb hs hu0⟩
theorem rc_tuples (I : Inv X pins σ H s) (hK : R.K = X.K) {n : Nat} {A : Around} (ih : EqAtN X R H s n) (hu : A.units + (n + 1) < cLine) {a1 a2 : Addr} {ds es : List D} {xs ys : List V} {its its2 : List Value} {e : Bool} (pa : s.heap.IsTuple a1 its.toArray) (pb : s.heap.IsTuple a2 its2.toArray) (va : Vals xs its) (vb : Vals ys its2) (da : DRs R H ds xs) (db : DRs R H es ys)
    (h : eqF (n + 1) (.tup ds) (.tup es) = some e) : SeqAt.RcAt A s (.ref a1) (.ref a2) e ∧ SeqAt.RcNeAt A s (.ref a1) (.ref a2) (!e) := by
  have l1 := va.length
  have l2 := vb.length
  have l3 := da.len
  have l4 := db.len
  have hu0 : A.units < cLine := by omega
  simp only [eqF] at h
  obtain ⟨g, g1, g2⟩ := eqAll_fn h
  have hm : e = ((List.range (min its.toArray.size its2.toArray.size)).all g && its.toArray.size == its2.toArray.size) := by
    rw [g2]
    have e1 : ds.length = its.toArray.size := by simp only [List.size_toArray]; omega
    have e2 : es.length = its2.toArray.size := by simp only [List.size_toArray]; omega
    rw [e1, e2]
  rw [hm]
  exact ⟨SeqAt.RcAt.tuples pa pb hu0 fun j h1 h2 => items_eq ih (in1_units hu) va vb da db g1 j h1 h2, SeqAt.RcNeAt.tuples pa pb hu0 fun j h1 h2 => items_eq ih (in1_units hu) va vb da db g1 j h1 h2⟩
theorem eq_at (I : Inv X pins σ H s) (hK : R.K = X.K) : ∀ (n : Nat), EqAtN X R H s n
  | 0, A, a, b, x, y, u, v, e, hu, h, r, q, ru, rv => by cases h
  | n + 1, A, a, b, x, y, u, v, e, hu, h, r, q, ru, rv => by
    have hu0 : A.units < cLine := by omega
    have fa := form_of I hK r ru
    have fb := form_of I hK q rv
    cases fa with
    | non =>
      cases fb with
      | non =>
        simp only [eqF, Option.some.injEq] at h
        rw [← h]
        exact SeqAt.EqAt.same _
      | bl b2 =>
        simp only [eqF, Option.some.injEq] at h
        rw [← h]
        exact SeqAt.EqAt.none_bool b2 
      | int i2 t2 =>
        simp only [eqF, Option.some.injEq] at h
        rw [← h]
        exact SeqAt.EqAt.none_int i2 t2 
      | str x2 t2 =>
        simp only [eqF, Option.some.injEq] at h
        rw [← h]
        exact SeqAt.EqAt.none_str ⟨x2.toArray⟩ t2 
      | lst pb vb db =>
        simp only [eqF, Option.some.injEq] at h
        rw [← h]
        exact SeqAt.EqAt.none_list  pb hu0
      | tup pb vb db =>
        simp only [eqF, Option.some.injEq] at h
        rw [← h]
        exact SeqAt.EqAt.none_tuple  pb hu0
      | frz => simp [eqF] at h
      | dct => simp [eqF] at h
    | bl b =>
      cases fb with
      | non =>
        simp only [eqF, Option.some.injEq] at h
        rw [← h]
        exact SeqAt.EqAt.bool_none b 
      | bl b2 =>
        simp only [eqF, Option.some.injEq] at h
        rw [← h]
        exact SeqAt.EqAt.bool_bool b b2 
      | int i2 t2 =>
        simp only [eqF, Option.some.injEq] at h
        rw [← h]
        exact SeqAt.EqAt.bool_int b i2 t2 
      | str x2 t2 =>
        simp only [eqF, Option.some.injEq] at h
        rw [← h]
        exact SeqAt.EqAt.bool_str b ⟨x2.toArray⟩ t2 
      | lst pb vb db =>
        simp only [eqF, Option.some.injEq] at h
        rw [← h]
        exact SeqAt.EqAt.bool_list b pb hu0
      | tup pb vb db =>
        simp only [eqF, Option.some.injEq] at h
        rw [← h]
        exact SeqAt.EqAt.bool_tuple b pb hu0
      | frz => simp [eqF] at h
      | dct => simp [eqF] at h
    | int i t =>
      cases fb with
      | non =>
        simp only [eqF, Option.some.injEq] at h
        rw [← h]
        exact SeqAt.EqAt.int_none i t 
      | bl b2 =>
        simp only [eqF, Option.some.injEq] at h
        rw [← h]
        exact SeqAt.EqAt.int_bool i t b2 
      | int i2 t2 =>
        simp only [eqF, Option.some.injEq] at h
        rw [← h]
        exact SeqAt.EqAt.int_int i t i2 t2 
      | str x2 t2 =>
        simp only [eqF, Option.some.injEq] at h
        rw [← h]
        exact SeqAt.EqAt.int_str i t ⟨x2.toArray⟩ t2 
      | lst pb vb db =>
        simp only [eqF, Option.some.injEq] at h
        rw [← h]
        exact SeqAt.EqAt.int_list i t pb hu0
      | tup pb vb db =>
        simp only [eqF, Option.some.injEq] at h
        rw [← h]
        exact SeqAt.EqAt.int_tuple i t pb hu0
      | frz => simp [eqF] at h
      | dct => simp [eqF] at h
    | str x t =>
      cases fb with
      | non =>
        simp only [eqF, Option.some.injEq] at h
        rw [← h]
        exact SeqAt.EqAt.str_none ⟨x.toArray⟩ t 
      | bl b2 =>
        simp only [eqF, Option.some.injEq] at h
        rw [← h]
        exact SeqAt.EqAt.str_bool ⟨x.toArray⟩ t b2 
      | int i2 t2 =>
        simp only [eqF, Option.some.injEq] at h
        rw [← h]
        exact SeqAt.EqAt.str_int ⟨x.toArray⟩ t i2 t2 
      | str x2 t2 =>
        simp only [eqF, Option.some.injEq] at h
        rw [← h, ← str_beq]
        exact SeqAt.EqAt.str_str ⟨x.toArray⟩ t ⟨x2.toArray⟩ t2 
      | lst pb vb db =>
        simp only [eqF, Option.some.injEq] at h
        rw [← h]
        exact SeqAt.EqAt.str_list ⟨x.toArray⟩ t pb hu0
      | tup pb vb db =>
        simp only [eqF, Option.some.injEq] at h
        rw [← h]
        exact SeqAt.EqAt.str_tuple ⟨x.toArray⟩ t pb hu0
      | frz => simp [eqF] at h
      | dct => simp [eqF] at h
    | lst pa va da =>
      cases fb with
      | non =>
        simp only [eqF, Option.some.injEq] at h
        rw [← h]
        exact SeqAt.EqAt.list_none  pa hu0
      | bl b2 =>
        simp only [eqF, Option.some.injEq] at h
        rw [← h]
        exact SeqAt.EqAt.list_bool b2 pa hu0
      | int i2 t2 =>
        simp only [eqF, Option.some.injEq] at h
        rw [← h]
        exact SeqAt.EqAt.list_int i2 t2 pa hu0
      | str x2 t2 =>
        simp only [eqF, Option.some.injEq] at h
        rw [← h]
        exact SeqAt.EqAt.list_str ⟨x2.toArray⟩ t2 pa hu0
      | lst pb vb db =>
        rename_i a1 its xs ds a2 its2 ys es
        by_cases hab : a1 = a2
        · subst hab
          rw [eq_one I hK (n + 1) _ _ _ _ h r (by rw [RelV.inj2 ru rv]; exact q)]
          exact SeqAt.EqAt.same _
        · exact SeqAt.EqAt.of_refs hab (rc_lists I hK (fun A a b x y u v e k1 k2 k3 k4 k5 k6 => eq_at I hK n A a b x y u v e k1 k2 k3 k4 k5 k6) hu pa pb va vb da db h).1
      | tup pb vb db =>
        simp only [eqF, Option.some.injEq] at h
        rw [← h]
        exact SeqAt.EqAt.list_tuple  pa pb hu0
      | frz => simp [eqF] at h
      | dct => simp [eqF] at h
    | tup pa va da =>
      cases fb with
      | non =>
        simp only [eqF, Option.some.injEq] at h
        rw [← h]
        exact SeqAt.EqAt.tuple_none  pa hu0
      | bl b2 =>
        simp only [eqF, Option.some.injEq] at h
        rw [← h]
        exact SeqAt.EqAt.tuple_bool b2 pa hu0
      | int i2 t2 =>
        simp only [eqF, Option.some.injEq] at h
        rw [← h]
        exact SeqAt.EqAt.tuple_int i2 t2 pa hu0
      | str x2 t2 =>
        simp only [eqF, Option.some.injEq] at h
        rw [← h]
        exact SeqAt.EqAt.tuple_str ⟨x2.toArray⟩ t2 pa hu0
      | lst pb vb db =>
        simp only [eqF, Option.some.injEq] at h
        rw [← h]
        exact SeqAt.EqAt.tuple_list  pa pb hu0
      | tup pb vb db =>
        rename_i a1 its xs ds a2 its2 ys es
        by_cases hab : a1 = a2
        · subst hab
          rw [eq_one I hK (n + 1) _ _ _ _ h r (by rw [RelV.inj2 ru rv]; exact q)]
          exact SeqAt.EqAt.same _
        · exact SeqAt.EqAt.of_refs hab (rc_tuples I hK (fun A a b x y u v e k1 k2 k3 k4 k5 k6 => eq_at I hK n A a b x y u v e k1 k2 k3 k4 k5 k6) hu pa pb va vb da db h).1
      | frz => simp [eqF] at h
      | dct => simp [eqF] at h
    | frz => simp [eqF] at h
    | dct => simp [eqF] at h
theorem rc_at (I : Inv X pins σ H s) (hK : R.K = X.K) {n : Nat} {A : Around} {a b : D} {x y : V} {u v : Value} {e : Bool} (hu : A.units + (n + 1) < cLine) (h : eqF (n + 1) a b = some e) (r : DR R H a x) (q : DR R H b y) (ru : RelV x u) (rv : RelV y v) : SeqAt.RcAt A s u v e := by
    have hu0 : A.units < cLine := by omega
    have fa := form_of I hK r ru
    have fb := form_of I hK q rv
    cases fa with
    | non =>
      cases fb with
      | non =>
        simp only [eqF, Option.some.injEq] at h
        rw [← h]
        exact SeqAt.RcAt.none_none  
      | bl b2 =>
        simp only [eqF, Option.some.injEq] at h
        rw [← h]
        exact SeqAt.RcAt.none_bool b2 
      | int i2 t2 =>
        simp only [eqF, Option.some.injEq] at h
        rw [← h]
        exact SeqAt.RcAt.none_int i2 t2 
      | str x2 t2 =>
        simp only [eqF, Option.some.injEq] at h
        rw [← h]
        exact SeqAt.RcAt.none_str ⟨x2.toArray⟩ t2 
      | lst pb vb db =>
        simp only [eqF, Option.some.injEq] at h
        rw [← h]
        exact SeqAt.RcAt.none_list  pb hu0
      | tup pb vb db =>
        simp only [eqF, Option.some.injEq] at h
        rw [← h]
        exact SeqAt.RcAt.none_tuple  pb hu0
      | frz => simp [eqF] at h
      | dct => simp [eqF] at h
    | bl b =>
      cases fb with
      | non =>
        simp only [eqF, Option.some.injEq] at h
        rw [← h]
        exact SeqAt.RcAt.bool_none b 
      | bl b2 =>
        simp only [eqF, Option.some.injEq] at h
        rw [← h]
        exact SeqAt.RcAt.bool_bool b b2 
      | int i2 t2 =>
        simp only [eqF, Option.some.injEq] at h
        rw [← h]
        exact SeqAt.RcAt.bool_int b i2 t2 
      | str x2 t2 =>
        simp only [eqF, Option.some.injEq] at h
        rw [← h]
        exact SeqAt.RcAt.bool_str b ⟨x2.toArray⟩ t2 
      | lst pb vb db =>
        simp only [eqF, Option.some.injEq] at h
        rw [← h]
        exact SeqAt.RcAt.bool_list b pb hu0
      | tup pb vb db =>
        simp only [eqF, Option.some.injEq] at h
        rw [← h]
        exact SeqAt.RcAt.bool_tuple b pb hu0
      | frz => simp [eqF] at h
      | dct => simp [eqF] at h
    | int i t =>
      cases fb with
      | non =>
        simp only [eqF, Option.some.injEq] at h
        rw [← h]
        exact SeqAt.RcAt.int_none i t 
      | bl b2 =>
        simp only [eqF, Option.some.injEq] at h
        rw [← h]
        exact SeqAt.RcAt.int_bool i t b2 
      | int i2 t2 =>
        simp only [eqF, Option.some.injEq] at h
        rw [← h]
        exact SeqAt.RcAt.int_int i t i2 t2 
      | str x2 t2 =>
        simp only [eqF, Option.some.injEq] at h
        rw [← h]
        exact SeqAt.RcAt.int_str i t ⟨x2.toArray⟩ t2 
      | lst pb vb db =>
        simp only [eqF, Option.some.injEq] at h
        rw [← h]
        exact SeqAt.RcAt.int_list i t pb hu0
      | tup pb vb db =>
        simp only [eqF, Option.some.injEq] at h
        rw [← h]
        exact SeqAt.RcAt.int_tuple i t pb hu0
      | frz => simp [eqF] at h
      | dct => simp [eqF] at h
    | str x t =>
      cases fb with
      | non =>
        simp only [eqF, Option.some.injEq] at h
        rw [← h]
        exact SeqAt.RcAt.str_none ⟨x.toArray⟩ t 
      | bl b2 =>
        simp only [eqF, Option.some.injEq] at h
        rw [← h]
        exact SeqAt.RcAt.str_bool ⟨x.toArray⟩ t b2 
      | int i2 t2 =>
        simp only [eqF, Option.some.injEq] at h
        rw [← h]
        exact SeqAt.RcAt.str_int ⟨x.toArray⟩ t i2 t2 
      | str x2 t2 =>
        simp only [eqF, Option.some.injEq] at h
        rw [← h, ← str_beq]
        exact SeqAt.RcAt.str_str ⟨x.toArray⟩ t ⟨x2.toArray⟩ t2 
      | lst pb vb db =>
        simp only [eqF, Option.some.injEq] at h
        rw [← h]
        exact SeqAt.RcAt.str_list ⟨x.toArray⟩ t pb hu0
      | tup pb vb db =>
        simp only [eqF, Option.some.injEq] at h
        rw [← h]
        exact SeqAt.RcAt.str_tuple ⟨x.toArray⟩ t pb hu0
      | frz => simp [eqF] at h
      | dct => simp [eqF] at h
    | lst pa va da =>
      cases fb with
      | non =>
        simp only [eqF, Option.some.injEq] at h
        rw [← h]
        exact SeqAt.RcAt.list_none  pa hu0
      | bl b2 =>
        simp only [eqF, Option.some.injEq] at h
        rw [← h]
        exact SeqAt.RcAt.list_bool b2 pa hu0
      | int i2 t2 =>
        simp only [eqF, Option.some.injEq] at h
        rw [← h]
        exact SeqAt.RcAt.list_int i2 t2 pa hu0
      | str x2 t2 =>
        simp only [eqF, Option.some.injEq] at h
        rw [← h]
        exact SeqAt.RcAt.list_str ⟨x2.toArray⟩ t2 pa hu0
      | lst pb vb db =>
        exact (rc_lists I hK (eq_at I hK n) hu pa pb va vb da db h).1
      | tup pb vb db =>
        simp only [eqF, Option.some.injEq] at h
        rw [← h]
        exact SeqAt.RcAt.list_tuple  pa pb hu0
      | frz => simp [eqF] at h
      | dct => simp [eqF] at h
    | tup pa va da =>
      cases fb with
      | non =>
        simp only [eqF, Option.some.injEq] at h
        rw [← h]
        exact SeqAt.RcAt.tuple_none  pa hu0
      | bl b2 =>
        simp only [eqF, Option.some.injEq] at h
        rw [← h]
        exact SeqAt.RcAt.tuple_bool b2 pa hu0
      | int i2 t2 =>
        simp only [eqF, Option.some.injEq] at h
        rw [← h]
        exact SeqAt.RcAt.tuple_int i2 t2 pa hu0
      | str x2 t2 =>
        simp only [eqF, Option.some.injEq] at h
        rw [← h]
        exact SeqAt.RcAt.tuple_str ⟨x2.toArray⟩ t2 pa hu0
      | lst pb vb db =>
        simp only [eqF, Option.some.injEq] at h
        rw [← h]
        exact SeqAt.RcAt.tuple_list  pa pb hu0
      | tup pb vb db =>
        exact (rc_tuples I hK (eq_at I hK n) hu pa pb va vb da db h).1
      | frz => simp [eqF] at h
      | dct => simp [eqF] at h
    | frz => simp [eqF] at h
    | dct => simp [eqF] at h
theorem ne_at (I : Inv X pins σ H s) (hK : R.K = X.K) {n : Nat} {A : Around} {a b : D} {x y : V} {u v : Value} {e : Bool} (hu : A.units + (n + 1) < cLine) (h : eqF (n + 1) a b = some e) (r : DR R H a x) (q : DR R H b y) (ru : RelV x u) (rv : RelV y v) : SeqAt.RcNeAt A s u v (!e) := by
    have hu0 : A.units < cLine := by omega
    have fa := form_of I hK r ru
    have fb := form_of I hK q rv
    cases fa with
    | non =>
      cases fb with
      | non =>
        simp only [eqF, Option.some.injEq] at h
        rw [← h]
        exact SeqAt.RcNeAt.none_none  
      | bl b2 =>
        simp only [eqF, Option.some.injEq] at h
        rw [← h]
        exact SeqAt.RcNeAt.none_bool b2 
      | int i2 t2 =>
        simp only [eqF, Option.some.injEq] at h
        rw [← h]
        exact SeqAt.RcNeAt.none_int i2 t2 
      | str x2 t2 =>
        simp only [eqF, Option.some.injEq] at h
        rw [← h]
        exact SeqAt.RcNeAt.none_str ⟨x2.toArray⟩ t2 
      | lst pb vb db =>
        simp only [eqF, Option.some.injEq] at h
        rw [← h]
        exact SeqAt.RcNeAt.none_list  pb hu0
      | tup pb vb db =>
        simp only [eqF, Option.some.injEq] at h
        rw [← h]
        exact SeqAt.RcNeAt.none_tuple  pb hu0
      | frz => simp [eqF] at h
      | dct => simp [eqF] at h
    | bl b =>
      cases fb with
      | non =>
        simp only [eqF, Option.some.injEq] at h
        rw [← h]
        exact SeqAt.RcNeAt.bool_none b 
      | bl b2 =>
        simp only [eqF, Option.some.injEq] at h
        rw [← h]
        exact SeqAt.RcNeAt.bool_bool b b2 
      | int i2 t2 =>
        simp only [eqF, Option.some.injEq] at h
        rw [← h]
        exact SeqAt.RcNeAt.bool_int b i2 t2 
      | str x2 t2 =>
        simp only [eqF, Option.some.injEq] at h
        rw [← h]
        exact SeqAt.RcNeAt.bool_str b ⟨x2.toArray⟩ t2 
      | lst pb vb db =>
        simp only [eqF, Option.some.injEq] at h
        rw [← h]
        exact SeqAt.RcNeAt.bool_list b pb hu0
      | tup pb vb db =>
        simp only [eqF, Option.some.injEq] at h
        rw [← h]
        exact SeqAt.RcNeAt.bool_tuple b pb hu0
      | frz => simp [eqF] at h
      | dct => simp [eqF] at h
    | int i t =>
      cases fb with
      | non =>
        simp only [eqF, Option.some.injEq] at h
        rw [← h]
        exact SeqAt.RcNeAt.int_none i t 
      | bl b2 =>
        simp only [eqF, Option.some.injEq] at h
        rw [← h]
        exact SeqAt.RcNeAt.int_bool i t b2 
      | int i2 t2 =>
        simp only [eqF, Option.some.injEq] at h
        rw [← h]
        exact SeqAt.RcNeAt.int_int i t i2 t2 
      | str x2 t2 =>
        simp only [eqF, Option.some.injEq] at h
        rw [← h]
        exact SeqAt.RcNeAt.int_str i t ⟨x2.toArray⟩ t2 
      | lst pb vb db =>
        simp only [eqF, Option.some.injEq] at h
        rw [← h]
        exact SeqAt.RcNeAt.int_list i t pb hu0
      | tup pb vb db =>
        simp only [eqF, Option.some.injEq] at h
        rw [← h]
        exact SeqAt.RcNeAt.int_tuple i t pb hu0
      | frz => simp [eqF] at h
      | dct => simp [eqF] at h
    | str x t =>
      cases fb with
      | non =>
        simp only [eqF, Option.some.injEq] at h
        rw [← h]
        exact SeqAt.RcNeAt.str_none ⟨x.toArray⟩ t 
      | bl b2 =>
        simp only [eqF, Option.some.injEq] at h
        rw [← h]
        exact SeqAt.RcNeAt.str_bool ⟨x.toArray⟩ t b2 
      | int i2 t2 =>
        simp only [eqF, Option.some.injEq] at h
        rw [← h]
        exact SeqAt.RcNeAt.str_int ⟨x.toArray⟩ t i2 t2 
      | str x2 t2 =>
        simp only [eqF, Option.some.injEq] at h
        rw [← h, ← str_beq]
        exact SeqAt.RcNeAt.str_str ⟨x.toArray⟩ t ⟨x2.toArray⟩ t2 
      | lst pb vb db =>
        simp only [eqF, Option.some.injEq] at h
        rw [← h]
        exact SeqAt.RcNeAt.str_list ⟨x.toArray⟩ t pb hu0
      | tup pb vb db =>
        simp only [eqF, Option.some.injEq] at h
        rw [← h]
        exact SeqAt.RcNeAt.str_tuple ⟨x.toArray⟩ t pb hu0
      | frz => simp [eqF] at h
      | dct => simp [eqF] at h
    | lst pa va da =>
      cases fb with
      | non =>
        simp only [eqF, Option.some.injEq] at h
        rw [← h]
        exact SeqAt.RcNeAt.list_none  pa hu0
      | bl b2 =>
        simp only [eqF, Option.some.injEq] at h
        rw [← h]
        exact SeqAt.RcNeAt.list_bool b2 pa hu0
      | int i2 t2 =>
        simp only [eqF, Option.some.injEq] at h
        rw [← h]
        exact SeqAt.RcNeAt.list_int i2 t2 pa hu0
      | str x2 t2 =>
        simp only [eqF, Option.some.injEq] at h
        rw [← h]
        exact SeqAt.RcNeAt.list_str ⟨x2.toArray⟩ t2 pa hu0
      | lst pb vb db =>
        exact (rc_lists I hK (eq_at I hK n) hu pa pb va vb da db h).2
      | tup pb vb db =>
        simp only [eqF, Option.some.injEq] at h
        rw [← h]
        exact SeqAt.RcNeAt.list_tuple  pa pb hu0
      | frz => simp [eqF] at h
      | dct => simp [eqF] at h
    | tup pa va da =>
      cases fb with
      | non =>
        simp only [eqF, Option.some.injEq] at h
        rw [← h]
        exact SeqAt.RcNeAt.tuple_none  pa hu0
      | bl b2 =>
        simp only [eqF, Option.some.injEq] at h
        rw [← h]
        exact SeqAt.RcNeAt.tuple_bool b2 pa hu0
      | int i2 t2 =>
        simp only [eqF, Option.some.injEq] at h
        rw [← h]
        exact SeqAt.RcNeAt.tuple_int i2 t2 pa hu0
      | str x2 t2 =>
        simp only [eqF, Option.some.injEq] at h
        rw [← h]
        exact SeqAt.RcNeAt.tuple_str ⟨x2.toArray⟩ t2 pa hu0
      | lst pb vb db =>
        simp only [eqF, Option.some.injEq] at h
        rw [← h]
        exact SeqAt.RcNeAt.tuple_list  pa pb hu0
      | tup pb vb db =>
        exact (rc_tuples I hK (eq_at I hK n) hu pa pb va vb da db h).2
      | frz => simp [eqF] at h
      | dct => simp [eqF] at h
    | frz => simp [eqF] at h
    | dct => simp [eqF] at h
end
/-- x == y, x != y -/
def rEqF (R0 : PySem.W.Frag) (neg : Bool) : R2 := fun x y H Q => ∃ a b e, DR ⟨R0, fun _ => False⟩ H a x ∧ DR ⟨R0, fun _ => False⟩ H b y ∧ eqF 60 a b = some e ∧ Q (.bl (if neg then !e else e)) H
section
variable {X : Cx}
theorem op_eqF (hu : X.A.units + 64 < cLine) : OpR X (compareOp .Eq) (rEqF X.K false) := by
  intro pins s σ H x y v u Q I rx ry h
  obtain ⟨a, b, e, r1, r2, h1, q⟩ := h
  exact rc_at (n := 59) I rfl (by omega) h1 r1 r2 rx ry _ _ _ _ ⟨.bl e, H, I, rfl, q⟩
theorem op_neF (hu : X.A.units + 64 < cLine) : OpR X (compareOp .NotEq) (rEqF X.K true) := by
  intro pins s σ H x y v u Q I rx ry h
  obtain ⟨a, b, e, r1, r2, h1, q⟩ := h
  exact ne_at (n := 59) I rfl (by omega) h1 r1 r2 rx ry _ _ _ _ ⟨.bl (!e), H, I, rfl, q⟩
end
theorem eqF_op {K : PySem.W.Frag} {neg : Bool} : OpS K (rEqF K neg) fun a b => (eqF 60 a b).map fun e => .bl (if neg then !e else e) := by
  intro R H x y a b d Q hk tr ra rb h q
  cases he : eqF 60 a b with
  | none => simp [he] at h
  | some e =>
    simp [he] at h
    subst h
    have e1 : R.z = ⟨K, fun _ => False⟩ := by unfold RC.z; rw [hk]
    exact ⟨a, b, e, by rw [← e1]; exact ra.z, by rw [← e1]; exact rb.z, he, q _ H (Evl.Ex.refl H) (.bl _)⟩
end Mi
set_option Elab.async false
set_option linter.all false
set_option maxRecDepth 100000
set_option maxHeartbeats 2000000
/-! M6: operations and built-ins on plain data -/
namespace Mi
open PySem L2

/-! ### arguments by their kind -/
section
variable {R : RC} {H : Hp} {x : V} {d : D}
theorem AR.int {i : Int} (h : AR R H (.int i) x) : x = .int i := by
  rcases h with h | ⟨o, a, e, _, _⟩
  · cases h; rfl
  · cases o <;> cases e
theorem AR.bl {i : Bool} (h : AR R H (.bl i) x) : x = .bl i := by
  rcases h with h | ⟨o, a, e, _, _⟩
  · cases h; rfl
  · cases o <;> cases e
theorem AR.non (h : AR R H .non x) : x = .non := by
  rcases h with h | ⟨o, a, e, _, _⟩
  · cases h; rfl
  · cases o <;> cases e
theorem AR.str {s : List Nat} (h : AR R H (.str s) x) : x = .str ⟨s.toArray⟩ := by
  rcases h with h | ⟨o, a, e, _, _⟩
  · cases h; rfl
  · cases o <;> cases e
theorem AR.lst {ds : List D} (h : AR R H (.lst ds) x) : ∃ a xs, x = .ref a ∧ H a = some (.lst xs) ∧ DRs R H ds xs := by
  rcases h with h | ⟨o, a, e, rfl, h⟩
  · cases h with
    | lst h1 h2 => exact ⟨_, _, rfl, h1.1, h2⟩
  · cases o with
    | lst es =>
      cases e
      obtain ⟨_, xs, h1, h2⟩ := h
      exact ⟨a, xs, rfl, h1, h2⟩
    | dct kvs => cases e
theorem AR.tup {ds : List D} (h : AR R H (.tup ds) x) : ∃ a xs, x = .ref a ∧ TpAt R H a xs ∧ DRs R H ds xs := by
  rcases h with h | ⟨o, a, e, _, _⟩
  · cases h with
    | tup h1 h2 => exact ⟨_, _, rfl, h1, h2⟩
  · cases o <;> cases e
theorem AR.frz {ds : List D} (h : AR R H (.frz ds) x) : ∃ a xs, x = .ref a ∧ FzAt R H a xs ∧ DRs R H ds xs := by
  rcases h with h | ⟨o, a, e, _, _⟩
  · cases h with
    | frz h1 h2 => exact ⟨_, _, rfl, h1, h2⟩
  · cases o <;> cases e
theorem AR.dct {ds : List (D × D)} (h : AR R H (.dct ds) x) : ∃ a kvs, x = .ref a ∧ H a = some (.dK kvs) ∧ DRs R H (ds.map (·.1)) (kvs.map fun p => kV p.1) ∧ DRs R H (ds.map (·.2)) (kvs.map (·.2)) := by
  rcases h with h | ⟨o, a, e, rfl, h⟩
  · cases h with
    | dct h1 h2 h3 => exact ⟨_, _, rfl, h1.1, h2, h3⟩
  · cases o with
    | lst es => cases e
    | dct kvs =>
      cases e
      obtain ⟨_, kv, h1, h2, h3⟩ := h
      exact ⟨a, kv, rfl, h1, h2, h3⟩
/-- a new list, a new tuple -/
theorem new_lst {R : RC} {H : Hp} (tr : ∀ z, R.M z → ∃ o, H z = some o) {p : Addr} (hp : H p = none) {xs : List V} {ds : List D} (r : DRs R H ds xs) : Evl.Ex H (upd H p (.lst xs)) ∧ DR R (upd H p (.lst xs)) (.lst ds) (.ref p) := by
  have ex : Evl.Ex H (upd H p (.lst xs)) := Evl.Ex.new hp
  refine ⟨ex, .lst ⟨upd_same, fun z => ?_⟩ (r.to (To.ex ex))⟩
  obtain ⟨o, q⟩ := tr p z
  rw [hp] at q
  cases q
theorem new_tup {R : RC} {H : Hp} (tr : ∀ z, R.M z → ∃ o, H z = some o) {p : Addr} (hp : H p = none) {xs : List V} {ds : List D} (r : DRs R H ds xs) : Evl.Ex H (upd H p (.tup xs)) ∧ DR R (upd H p (.tup xs)) (.tup ds) (.ref p) := by
  have ex : Evl.Ex H (upd H p (.tup xs)) := Evl.Ex.new hp
  refine ⟨ex, .tup (.inl ⟨.inl upd_same, fun z => ?_⟩) (r.to (To.ex ex))⟩
  obtain ⟨o, q⟩ := tr p z
  rw [hp] at q
  cases q
end
theorem OpS.or {K : PySem.W.Frag} {r r' : R2} {f g : D → D → Option D} (h : OpS K r f) (h' : OpS K r' g) : OpS K (fun x y H Q => r x y H Q ∨ r' x y H Q) (fun a b => (f a b).or (g a b)) := by
  intro R H x y a b d Q hk tr ra rb e q
  dsimp only at e
  cases hf : f a b with
  | some d' =>
    rw [hf] at e
    cases e
    exact .inl (h R H x y a b d Q hk tr ra rb hf q)
  | none =>
    rw [hf] at e
    exact .inr (h' R H x y a b d Q hk tr ra rb e q)
theorem OpS.imp {K : PySem.W.Frag} {r : R2} {f g : D → D → Option D} (h : OpS K r f) (e : ∀ a b d, g a b = some d → f a b = some d) : OpS K r g := fun R H x y a b d Q hk tr ra rb q k => h R H x y a b d Q hk tr ra rb (e a b d q) k
theorem CallS.or {K : PySem.W.Frag} {r r' : List V → Hp → VK → Prop} {f g : List D → Option D} (h : CallS K r f) (h' : CallS K r' g) : CallS K (fun x H Q => r x H Q ∨ r' x H Q) (fun a => (f a).or (g a)) := by
  intro R H x a d Q hk tr ra e q
  dsimp only at e
  cases hf : f a with
  | some d' =>
    rw [hf] at e
    cases e
    exact .inl (h R H x a d Q hk tr ra hf q)
  | none =>
    rw [hf] at e
    exact .inr (h' R H x a d Q hk tr ra e q)
/-- ints by ints -/
def intOp (c : Int → Int → Bool) (f : Int → Int → D) : D → D → Option D
  | .int i, .int j => if c i j then some (f i j) else none
  | _, _ => none
theorem intOp_ok {K : PySem.W.Frag} {C : Int → Int → Prop} {c : Int → Int → Bool} {g : Int → Int → V} {f : Int → Int → D} (hc : ∀ i j, c i j = true → C i j) (hf : ∀ R H i j, DR R H (f i j) (g i j)) : OpS K (rI C g) (intOp c f) := by
  intro R H x y a b d Q hk tr ra rb e q
  unfold intOp at e
  split at e
  · split at e
    · cases e
      exact ⟨_, _, ra.int, rb.int, hc _ _ ‹_›, q _ H (Evl.Ex.refl H) (hf R H _ _)⟩
    · cases e
  · cases e
theorem intOp0_ok {K : PySem.W.Frag} {g : Int → Int → V} {f : Int → Int → D} (hf : ∀ R H i j, DR R H (f i j) (g i j)) : OpS K (rI0 g) (intOp (fun _ _ => true) f) := by
  intro R H x y a b d Q hk tr ra rb e q
  unfold intOp at e
  split at e
  · cases e
    exact ⟨_, _, ra.int, rb.int, q _ H (Evl.Ex.refl H) (hf R H _ _)⟩
  · cases e
/-! ### + -/
def catStr : D → D → Option D
  | .str a, .str b => if a.length + b.length ≤ sizeLine then some (.str (a ++ b)) else none
  | _, _ => none
abbrev rCatS : R2 := fun x y H Q => ∃ i j, x = .str i ∧ y = .str j ∧ i.length + j.length ≤ sizeLine ∧ Q (.str (i ++ j)) H
theorem len_str (a : List Nat) : (⟨a.toArray⟩ : Str).length = a.length := by
  show a.toArray.size = a.length
  simp
theorem app_str (a b : List Nat) : (⟨a.toArray⟩ : Str) ++ ⟨b.toArray⟩ = ⟨(a ++ b).toArray⟩ := by
  show (⟨a.toArray ++ b.toArray⟩ : Str) = _
  simp
theorem catStr_ok {K : PySem.W.Frag} : OpS K rCatS catStr := by
  intro R H x y a b d Q hk tr ra rb e q
  unfold catStr at e
  split at e
  · split at e
    · cases e
      refine ⟨_, _, ra.str, rb.str, by rw [len_str, len_str]; assumption, ?_⟩
      rw [app_str]
      exact q _ H (Evl.Ex.refl H) (.str _)
    · cases e
  · cases e
def catLst : D → D → Option D
  | .lst a, .lst b => if a.length + b.length ≤ sizeLine then some (.lst (a ++ b)) else none
  | _, _ => none
theorem catLst_ok {K : PySem.W.Frag} : OpS K rCat catLst := by
  intro R H x y a b d Q hk tr ra rb e q
  unfold catLst at e
  split at e
  · split at e
    · cases e
      obtain ⟨a1, xs, rfl, h1, r1⟩ := ra.lst
      obtain ⟨a2, ys, rfl, h2, r2⟩ := rb.lst
      refine ⟨_, _, _, _, rfl, rfl, h1, h2, by rw [← r1.len, ← r2.len]; assumption, fun p hp => ?_⟩
      obtain ⟨ex, dr⟩ := new_lst tr hp (r1.append r2)
      exact q _ _ ex dr
    · cases e
  · cases e
def catTup : D → D → Option D
  | .tup a, .tup b => if a.length + b.length ≤ sizeLine then some (.tup (a ++ b)) else none
  | _, _ => none
theorem DRs.nil_iff {R : RC} {H : Hp} {ds : List D} {xs : List V} (r : DRs R H ds xs) : xs = [] ↔ ds = [] := by
  have := r.len
  cases ds <;> cases xs <;> simp at this ⊢
theorem catTup_ok {K : PySem.W.Frag} : OpS K (rCatA K) catTup := by
  intro R H x y a b d Q hk tr ra rb e q
  unfold catTup at e
  split at e
  · split at e
    · cases e
      have ra0 := ra
      have rb0 := rb
      obtain ⟨a1, xs, rfl, h1, r1⟩ := ra.tup
      obtain ⟨a2, ys, rfl, h2, r2⟩ := rb.tup
      refine ⟨_, _, _, _, rfl, rfl, by rw [← hk]; exact h1.sq, by rw [← hk]; exact h2.sq, by rw [← r1.len, ← r2.len]; assumption, fun z => ?_, fun _ z => ?_, fun _ _ p hp => ?_⟩
      · rw [r1.nil_iff.mp z, List.nil_append] at q
        exact q _ H (Evl.Ex.refl H) (.tup h2 r2)
      · rw [r2.nil_iff.mp z, List.append_nil] at q
        exact q _ H (Evl.Ex.refl H) (.tup h1 r1)
      · obtain ⟨ex, dr⟩ := new_tup tr hp (r1.append r2)
        exact q _ _ ex dr
    · cases e
  · cases e
def addD (a b : D) : Option D := (intOp (fun _ _ => true) (fun i j => .int (i + j)) a b).or ((catStr a b).or ((catLst a b).or (catTup a b)))
def rAddD (K : PySem.W.Frag) : R2 := fun x y H Q => rI0 (fun i j => .int (i + j)) x y H Q ∨ rCatS x y H Q ∨ rCat x y H Q ∨ rCatA K x y H Q
theorem addD_ok {K : PySem.W.Frag} : OpS K (rAddD K) addD := OpS.or (intOp0_ok fun _ _ _ _ => .int _) (OpS.or catStr_ok (OpS.or catLst_ok catTup_ok))
theorem op_addD {X : Cx} : OpR X (binaryOp .Add) (rAddD X.K) := op_add.or (op_add_str.or (op_cat.or op_catA))
/-! ### - * // % ** -/
def subD (a b : D) : Option D := intOp (fun _ _ => true) (fun i j => .int (i - j)) a b
theorem subD_ok {K : PySem.W.Frag} : OpS K (rI0 fun i j => .int (i - j)) subD := intOp0_ok fun _ _ _ _ => .int _
def mulB (i j : Int) : Bool := (decide (-(2 ^ 64) < i) && decide (i < 2 ^ 64)) || (decide (-(2 ^ 64) < j) && decide (j < 2 ^ 64))
theorem mulB_ok {i j : Int} (h : mulB i j = true) : CMul i j := by
  unfold mulB at h
  simp only [Bool.or_eq_true, Bool.and_eq_true, decide_eq_true_eq] at h
  exact h
def repLst : D → D → Option D
  | .lst a, .int k => if -(2 ^ 63) ≤ k ∧ k < 2 ^ 63 ∧ a.length * k.toNat ≤ sizeLine then some (.lst (List.replicate k.toNat a).flatten) else none
  | _, _ => none
theorem DRs.rep {R : RC} {H : Hp} {ds : List D} {xs : List V} (r : DRs R H ds xs) : ∀ k : Nat, DRs R H (List.replicate k ds).flatten (List.replicate k xs).flatten
  | 0 => .nil
  | k + 1 => by
    rw [List.replicate_succ, List.replicate_succ, List.flatten_cons, List.flatten_cons]
    exact r.append (DRs.rep r k)
theorem repLst_ok {K : PySem.W.Frag} : OpS K rRep repLst := by
  intro R H x y a b d Q hk tr ra rb e q
  unfold repLst at e
  split at e
  · split at e
    · rename_i hc
      cases e
      obtain ⟨a1, xs, rfl, h1, r1⟩ := ra.lst
      refine ⟨_, _, _, rfl, rb.int, h1, hc.1, hc.2.1, by rw [← r1.len]; exact hc.2.2, fun p hp => ?_⟩
      obtain ⟨ex, dr⟩ := new_lst tr hp (r1.rep _)
      exact q _ _ ex dr
    · cases e
  · cases e
def mulD (a b : D) : Option D := (intOp mulB (fun i j => .int (i * j)) a b).or (repLst a b)
def rMulD : R2 := fun x y H Q => rI CMul (fun i j => .int (i * j)) x y H Q ∨ rRep x y H Q
theorem mulD_ok {K : PySem.W.Frag} : OpS K rMulD mulD := OpS.or (intOp_ok (fun _ _ h => mulB_ok h) fun _ _ _ _ => .int _) repLst_ok
theorem op_mulD {X : Cx} : OpR X (binaryOp .Mult) rMulD := op_mul.or op_rep
def divB (i j : Int) : Bool := decide (j ≠ 0) && decide (j.natAbs < 1073741824)
def fdivD (a b : D) : Option D := intOp divB (fun i j => .int (i.fdiv j)) a b
theorem fdivD_ok {K : PySem.W.Frag} : OpS K (rI CDivN fun i j => .int (i.fdiv j)) fdivD := intOp_ok (fun i j h => by
  unfold divB at h
  simp only [Bool.and_eq_true, decide_eq_true_eq] at h
  exact h) fun _ _ _ _ => .int _
def modD (a b : D) : Option D := intOp (fun _ j => decide (j ≠ 0)) (fun i j => .int (i.fmod j)) a b
theorem modD_ok {K : PySem.W.Frag} : OpS K (rI (fun _ j => j ≠ 0) fun i j => .int (i.fmod j)) modD := intOp_ok (fun i j h => by simpa using h) fun _ _ _ _ => .int _
def powB (i j : Int) : Bool := decide (0 ≤ j) && decide (j ≤ 1000000) && decide (i.natAbs < 2 ^ 64)
def powD (a b : D) : Option D := intOp powB (fun i j => .int (i ^ j.toNat)) a b
theorem powD_ok {K : PySem.W.Frag} : OpS K (rI CPow fun i j => .int (i ^ j.toNat)) powD := intOp_ok (fun i j h => by
  unfold powB at h
  simp only [Bool.and_eq_true, decide_eq_true_eq] at h
  exact ⟨h.1.1, h.1.2, h.2⟩) fun _ _ _ _ => .int _

/-! ### comparisons -/
def strLt : List Nat → List Nat → Bool := fun a b => decide (a < b)
def strOp (f : List Nat → List Nat → Bool) : D → D → Option D
  | .str a, .str b => some (.bl (f a b))
  | _, _ => none
theorem strOp_ok {K : PySem.W.Frag} {g : Str → Str → Bool} {f : List Nat → List Nat → Bool} (hf : ∀ a b, g ⟨a.toArray⟩ ⟨b.toArray⟩ = f a b) : OpS K (fun x y H Q => ∃ i j, x = V.str i ∧ y = V.str j ∧ Q (.bl (g i j)) H) (strOp f) := by
  intro R H x y a b d Q hk tr ra rb e q
  unfold strOp at e
  split at e
  · cases e
    refine ⟨_, _, ra.str, rb.str, ?_⟩
    rw [hf]
    exact q _ H (Evl.Ex.refl H) (.bl _)
  · cases e
def cmpD (ci : Int → Int → Bool) (cs : List Nat → List Nat → Bool) (a b : D) : Option D := (intOp (fun _ _ => true) (fun i j => .bl (ci i j)) a b).or (strOp cs a b)
def ltD (a b : D) : Option D := cmpD (fun i j => decide (i < j)) strLt a b
def leD (a b : D) : Option D := cmpD (fun i j => decide (i ≤ j)) (fun a b => !strLt b a) a b
def gtD (a b : D) : Option D := cmpD (fun i j => decide (j < i)) (fun a b => strLt b a) a b
def geD (a b : D) : Option D := cmpD (fun i j => decide (j ≤ i)) (fun a b => !strLt a b) a b
def rCmpD (gi : Int → Int → V) (gs : Str → Str → Bool) : R2 := fun x y H Q => rI0 gi x y H Q ∨ ∃ i j, x = V.str i ∧ y = V.str j ∧ Q (.bl (gs i j)) H
theorem ltD_ok {K : PySem.W.Frag} : OpS K (rCmpD (fun i j => .bl (decide (i < j))) fun i j => decide (i.cps.toList < j.cps.toList)) ltD := OpS.or (intOp0_ok fun _ _ _ _ => .bl _) (strOp_ok fun a b => by simp [strLt])
theorem leD_ok {K : PySem.W.Frag} : OpS K (rCmpD (fun i j => .bl (decide (i ≤ j))) fun i j => !decide (j.cps.toList < i.cps.toList)) leD := OpS.or (intOp0_ok fun _ _ _ _ => .bl _) (strOp_ok fun a b => by simp [strLt])
theorem gtD_ok {K : PySem.W.Frag} : OpS K (rCmpD (fun i j => .bl (decide (j < i))) fun i j => decide (j.cps.toList < i.cps.toList)) gtD := OpS.or (intOp0_ok fun _ _ _ _ => .bl _) (strOp_ok fun a b => by simp [strLt])
theorem geD_ok {K : PySem.W.Frag} : OpS K (rCmpD (fun i j => .bl (decide (j ≤ i))) fun i j => !decide (i.cps.toList < j.cps.toList)) geD := OpS.or (intOp0_ok fun _ _ _ _ => .bl _) (strOp_ok fun a b => by simp [strLt])
theorem op_ltD {X : Cx} : OpR X (compareOp .Lt) (rCmpD (fun i j => .bl (decide (i < j))) fun i j => decide (i.cps.toList < j.cps.toList)) := op_lt.or op_lt_str
theorem op_leD {X : Cx} : OpR X (compareOp .LtE) (rCmpD (fun i j => .bl (decide (i ≤ j))) fun i j => !decide (j.cps.toList < i.cps.toList)) := op_le.or op_le_str
theorem op_gtD {X : Cx} : OpR X (compareOp .Gt) (rCmpD (fun i j => .bl (decide (j < i))) fun i j => decide (j.cps.toList < i.cps.toList)) := op_gt.or op_gt_str
theorem op_geD {X : Cx} : OpR X (compareOp .GtE) (rCmpD (fun i j => .bl (decide (j ≤ i))) fun i j => !decide (i.cps.toList < j.cps.toList)) := op_ge.or op_ge_str
/-- is, is not: None or a bool on the right -/
def isNon : D → Bool
  | .non => true
  | _ => false
def isD (neg : Bool) : D → D → Option D
  | .ref _, _ => none
  | a, .non => some (.bl (if neg then !isNon a else isNon a))
  | .bl a, .bl b => some (.bl (if neg then !(a == b) else a == b))
  | _, _ => none
def rIsD (neg : Bool) : R2 := fun x y H Q => (y = .non ∧ Q (.bl (if neg then !decide (x = .non) else decide (x = .non))) H) ∨ ∃ a b : Bool, x = .bl a ∧ y = .bl b ∧ Q (.bl (if neg then !decide (a = b) else decide (a = b))) H
theorem op_isD {X : Cx} : OpR X (compareOp .Is) (rIsD false) := op_isN.or op_isBl
theorem op_isnotD {X : Cx} : OpR X (compareOp .IsNot) (rIsD true) := op_notN.or op_notBl
theorem AR.isnon {R : RC} {H : Hp} {d : D} {x : V} (h : AR R H d x) (n : ∀ l, d ≠ .ref l) : decide (x = .non) = isNon d := by
  rcases h with h | ⟨o, a, rfl, rfl, _⟩
  · cases h <;> first | rfl | simp [isNon]
  · cases o <;> simp [Ow.toD, isNon]
theorem isD_ok {K : PySem.W.Frag} {neg : Bool} : OpS K (rIsD neg) (isD neg) := by
  intro R H x y a b d Q hk tr ra rb e q
  unfold isD at e
  split at e
  · cases e
  · rename_i hn
    cases e
    refine .inl ⟨rb.non, ?_⟩
    rw [ra.isnon (fun l z => hn l z)]
    exact q _ H (Evl.Ex.refl H) (.bl _)
  · cases e
    refine .inr ⟨_, _, ra.bl, rb.bl, ?_⟩
    rw [show ∀ p r : Bool, decide (p = r) = (p == r) from fun p r => by cases p <;> cases r <;> rfl]
    exact q _ H (Evl.Ex.refl H) (.bl _)
  · cases e
/-! ### in -/
def flatD : D → Bool
  | .non | .bl _ | .int _ | .str _ => true
  | _ => false
def eqFl : D → D → Bool
  | .non, .non => true
  | .bl a, .bl b => a == b
  | .bl a, .int b => (if a then 1 else 0) == b
  | .int a, .bl b => a == (if b then 1 else 0)
  | .int a, .int b => a == b
  | .str a, .str b => a == b
  | _, _ => false
def inFl (x : D) (xs : List D) : Bool := xs.any fun y => eqFl y x
theorem flat_ok {R : RC} {H : Hp} {d : D} {x : V} (r : DR R H d x) (f : flatD d = true) : flatV x = true := by
  cases r <;> first | rfl | cases f
theorem eqFl_ok {R : RC} {H : Hp} {d e : D} {x y : V} (r : DR R H d x) (q : DR R H e y) (f : flatD d = true) (g : flatD e = true) : eqV x y = eqFl d e := by
  cases r <;> cases f <;> cases q <;> cases g <;> first | rfl | exact str_beq
theorem inFl_ok {R : RC} {H : Hp} {d : D} {x : V} (r : DR R H d x) (f : flatD d = true) : ∀ {ds : List D} {xs : List V}, DRs R H ds xs → ds.all flatD = true → inV x xs = inFl d ds ∧ xs.all flatV = true
  | _, _, .nil, _ => ⟨rfl, rfl⟩
  | _, _, .cons a b, h => by
    simp only [List.all_cons, Bool.and_eq_true] at h
    obtain ⟨h1, h2⟩ := inFl_ok r f b h.2
    constructor
    · unfold inV inFl at *
      rw [List.any_cons, List.any_cons, h1, eqFl_ok a r h.1 f]
    · rw [List.all_cons, flat_ok a h.1, h2]
      rfl
def inLs (neg : Bool) : D → D → Option D
  | x, .lst ds => if flatD x && ds.all flatD then some (.bl (if neg then !inFl x ds else inFl x ds)) else none
  | x, .tup ds => if flatD x && ds.all flatD then some (.bl (if neg then !inFl x ds else inFl x ds)) else none
  | _, _ => none
theorem AR.flat {R : RC} {H : Hp} {d : D} {x : V} (h : AR R H d x) (f : flatD d = true) : DR R H d x := by
  rcases h with h | ⟨o, a, rfl, rfl, _⟩
  · exact h
  · cases o <;> cases f
theorem inLs_ok {K : PySem.W.Frag} {neg : Bool} : OpS K (rIn K neg) (inLs neg) := by
  intro R H x y a b d Q hk tr ra rb e q
  unfold inLs at e
  split at e
  · split at e
    · rename_i hc
      cases e
      simp only [Bool.and_eq_true] at hc
      obtain ⟨a1, xs, rfl, h1, r1⟩ := rb.lst
      obtain ⟨k1, k2⟩ := inFl_ok (ra.flat hc.1) hc.1 r1 hc.2
      refine ⟨a1, xs, rfl, .inl (.inl (.inl h1)), flat_ok (ra.flat hc.1) hc.1, k2, ?_⟩
      rw [k1]
      exact q _ H (Evl.Ex.refl H) (.bl _)
    · cases e
  · split at e
    · rename_i hc
      cases e
      simp only [Bool.and_eq_true] at hc
      obtain ⟨a1, xs, rfl, h1, r1⟩ := rb.tup
      obtain ⟨k1, k2⟩ := inFl_ok (ra.flat hc.1) hc.1 r1 hc.2
      refine ⟨a1, xs, rfl, .inr (by rw [← hk]; exact h1.sq), flat_ok (ra.flat hc.1) hc.1, k2, ?_⟩
      rw [k1]
      exact q _ H (Evl.Ex.refl H) (.bl _)
    · cases e
  · cases e
def inSg (neg : Bool) : D → D → Option D
  | .str [c], .str t => some (.bl (if neg then !decide (c ∈ t) else decide (c ∈ t)))
  | _, _ => none
end Mi
set_option Elab.async false
set_option linter.all false
set_option maxRecDepth 100000
set_option maxHeartbeats 2000000
/-! M7: items, slices, built-in functions -/
namespace Mi
open PySem L2

theorem inSg_ok {K : PySem.W.Frag} {neg : Bool} : OpS K (fun x y H Q => ∃ (c : Nat) (z : Str), x = V.str ⟨#[c]⟩ ∧ y = .str z ∧ Q (.bl (if neg then !decide (c ∈ z.cps.toList) else decide (c ∈ z.cps.toList))) H) (inSg neg) := by
  intro R H x y a b d Q hk tr ra rb e q
  unfold inSg at e
  split at e
  · cases e
    refine ⟨_, _, by rw [ra.str], rb.str, ?_⟩
    have z : ∀ t : List Nat, (⟨t.toArray⟩ : Str).cps.toList = t := fun t => by simp
    rw [z]
    exact q _ H (Evl.Ex.refl H) (.bl _)
  · cases e
def inD (neg : Bool) (a b : D) : Option D := (inSg neg a b).or (inLs neg a b)
def rInDD (K : PySem.W.Frag) (neg : Bool) : R2 := fun x y H Q => (∃ (c : Nat) (z : Str), x = V.str ⟨#[c]⟩ ∧ y = .str z ∧ Q (.bl (if neg then !decide (c ∈ z.cps.toList) else decide (c ∈ z.cps.toList))) H) ∨ rIn K neg x y H Q
theorem inD_ok {K : PySem.W.Frag} {neg : Bool} : OpS K (rInDD K neg) (inD neg) := OpS.or inSg_ok inLs_ok
theorem op_inDD {X : Cx} : OpR X (compareOp .In) (rInDD X.K false) := op_in_sign.or op_in_seq
theorem op_notInDD {X : Cx} : OpR X (compareOp .NotIn) (rInDD X.K true) := op_notIn_sign.or op_notIn_seq

/-! ### a[i] -/
def idxD : D → D → Option D
  | .lst ds, .int i => atI ds i
  | .tup ds, .int i => atI ds i
  | .str s, .int i => if s.length ≤ sizeLine then (atI s i).map fun c => .str [c] else none
  | _, _ => none
theorem atI_drs {R : RC} {H : Hp} {ds : List D} {xs : List V} {i : Int} {d : D} (r : DRs R H ds xs) (h : atI ds i = some d) : ∃ x, atI xs i = some x ∧ DR R H d x := by
  unfold atI at *
  rw [← r.len]
  cases hn : ixN ds.length i with
  | none => simp [hn] at h
  | some j =>
    simp [hn] at h
    obtain ⟨x, h1, h2⟩ := r.get h
    exact ⟨x, by simp [h1], h2⟩
theorem idxD_ok {K : PySem.W.Frag} : OpS K (rIx K) idxD := by
  intro R H x y a b d Q hk tr ra rb e q
  unfold idxD at e
  split at e
  · obtain ⟨p, xs, rfl, h1, r1⟩ := ra.lst
    obtain ⟨v, h2, h3⟩ := atI_drs r1 e
    exact .inl ⟨p, xs, _, v, rfl, rb.int, .inl (.inl h1), h2, q v H (Evl.Ex.refl H) h3⟩
  · obtain ⟨p, xs, rfl, h1, r1⟩ := ra.tup
    obtain ⟨v, h2, h3⟩ := atI_drs r1 e
    exact .inr (.inl ⟨p, xs, _, v, rfl, rb.int, by rw [← hk]; exact h1.sq, h2, q v H (Evl.Ex.refl H) h3⟩)
  · split at e
    · rename_i s i hz
      cases hc : atI s i with
      | none => simp [hc] at e
      | some c =>
        simp [hc] at e
        subst e
        exact .inr (.inr ⟨_, _, c, ra.str, rb.int, by rw [len_str]; exact hz, by simpa using hc, q _ H (Evl.Ex.refl H) (.str [c])⟩)
    · cases e
  · cases e
/-! ### a[lo:hi] -/
def prt : D → Option (Option Int)
  | .non => some none
  | .int i => some (some i)
  | _ => none
def cutL {α : Type} (xs : List α) (lo hi : Option Int) : List α := (xs.drop (HT.sIx xs.length 0 lo)).take (HT.sIx xs.length xs.length hi - HT.sIx xs.length 0 lo)
def sliD (a : D) (lo hi : Option Int) : Option D := match a with
  | .lst ds => some (.lst (cutL ds lo hi))
  | .frz ds => some (.lst (cutL ds lo hi))
  | .tup ds => some (.tup (cutL ds lo hi))
  | .str s => if s.length ≤ sizeLine then some (.str (cutL s lo hi)) else none
  | _ => none
theorem cutL_drs {R : RC} {H : Hp} {ds : List D} {xs : List V} (r : DRs R H ds xs) (lo hi : Option Int) : DRs R H (cutL ds lo hi) (cutV xs lo hi) := by
  unfold cutL cutV
  rw [r.len]
  exact (r.drop _).take _
theorem cutL_all {α : Type} {xs : List α} {lo hi : Option Int} (h : HT.sIx xs.length 0 lo = 0 ∧ HT.sIx xs.length xs.length hi = xs.length) : cutL xs lo hi = xs := by
  unfold cutL
  rw [h.1, h.2]
  simp
def rSliD (K : PySem.W.Frag) : V → Option Int → Option Int → Hp → VK → Prop := fun x lo hi H Q => rSlL K x lo hi H Q ∨ rSlA K x lo hi H Q ∨ rSlS x lo hi H Q
theorem sl_D {X : Cx} : L2.SlR X (rSliD X.K) := sl_list.or (sl_tupA.or sl_str)
theorem sliD_ok {K : PySem.W.Frag} {R : RC} {H : Hp} {x : V} {a d : D} {lo hi : Option Int} {Q : VK} (hk : R.K = K) (tr : ∀ z, R.M z → ∃ o, H z = some o) (ra : AR R H a x) (e : sliD a lo hi = some d)
    (q : ∀ z H', Evl.Ex H H' → DR R H' d z → Q z H') : rSliD K x lo hi H Q := by
  unfold sliD at e
  split at e
  · cases e
    obtain ⟨p, xs, rfl, h1, r1⟩ := ra.lst
    refine .inl ⟨p, xs, rfl, .inl (.inl h1), fun l hl => ?_⟩
    obtain ⟨ex, dr⟩ := new_lst tr hl (cutL_drs r1 lo hi)
    exact q _ _ ex dr
  · cases e
    obtain ⟨p, xs, rfl, h1, r1⟩ := ra.frz
    refine .inl ⟨p, xs, rfl, by rw [← hk]; exact h1.sq, fun l hl => ?_⟩
    obtain ⟨ex, dr⟩ := new_lst tr hl (cutL_drs r1 lo hi)
    exact q _ _ ex dr
  · cases e
    obtain ⟨p, xs, rfl, h1, r1⟩ := ra.tup
    refine .inr (.inl ⟨p, xs, rfl, by rw [← hk]; exact h1.sq, fun hw => ?_, fun hw l hl => ?_⟩)
    · rw [← r1.len] at hw
      rw [cutL_all hw] at q
      exact q _ H (Evl.Ex.refl H) (.tup h1 r1)
    · obtain ⟨ex, dr⟩ := new_tup tr hl (cutL_drs r1 lo hi)
      exact q _ _ ex dr
  · split at e
    · rename_i s hz
      cases e
      refine .inr (.inr ⟨_, ra.str, by rw [len_str]; exact hz, ?_⟩)
      have : cutS ⟨s.toArray⟩ lo hi = ⟨(cutL s lo hi).toArray⟩ := by
        unfold cutS cutL
        rw [len_str]
      rw [this]
      exact q _ H (Evl.Ex.refl H) (.str _)
    · cases e
  · cases e

/-! ### calls of built-ins -/
section
variable {K : PySem.W.Frag}
def intsD : List D → Option (List Int)
  | [] => some []
  | .int i :: ds => (intsD ds).map fun r => i :: r
  | _ => none
def boolsD : List D → Option (List Bool)
  | [] => some []
  | .bl i :: ds => (boolsD ds).map fun r => i :: r
  | _ => none
def strsD : List D → Option (List (List Nat))
  | [] => some []
  | .str i :: ds => (strsD ds).map fun r => i :: r
  | _ => none
theorem intsD_ok {R : RC} {H : Hp} : ∀ {ds : List D} {xs : List V} {ns : List Int}, DRs R H ds xs → intsD ds = some ns → xs = ns.map V.int
  | [], _, _, r, h => by
    cases r
    cases h
    rfl
  | d :: ds, _, ns, .cons a b, h => by
    unfold intsD at h
    split at h
    · rename_i h0
      cases h0
    · rename_i h0
      cases h0
      cases hr : intsD ds with
      | none => simp [hr] at h
      | some r =>
        simp [hr] at h
        subst h
        cases a
        rw [intsD_ok b hr]
        rfl
    · cases h
theorem boolsD_ok {R : RC} {H : Hp} : ∀ {ds : List D} {xs : List V} {ns : List Bool}, DRs R H ds xs → boolsD ds = some ns → xs = ns.map V.bl
  | [], _, _, r, h => by
    cases r
    cases h
    rfl
  | d :: ds, _, ns, .cons a b, h => by
    unfold boolsD at h
    split at h
    · rename_i h0
      cases h0
    · rename_i h0
      cases h0
      cases hr : boolsD ds with
      | none => simp [hr] at h
      | some r =>
        simp [hr] at h
        subst h
        cases a
        rw [boolsD_ok b hr]
        rfl
    · cases h
theorem strsD_ok {R : RC} {H : Hp} : ∀ {ds : List D} {xs : List V} {ns : List (List Nat)}, DRs R H ds xs → strsD ds = some ns → xs = (ns.map fun s => (⟨s.toArray⟩ : Str)).map V.str
  | [], _, _, r, h => by
    cases r
    cases h
    rfl
  | d :: ds, _, ns, .cons a b, h => by
    unfold strsD at h
    split at h
    · rename_i h0
      cases h0
    · rename_i h0
      cases h0
      cases hr : strsD ds with
      | none => simp [hr] at h
      | some r =>
        simp [hr] at h
        subst h
        cases a
        rw [strsD_ok b hr]
        rfl
    · cases h
def lenB : List D → Option D
  | [.lst ds] => some (.int ds.length)
  | [.tup ds] => some (.int ds.length)
  | [.frz ds] => some (.int ds.length)
  | [.str s] => if s.length ≤ sizeLine then some (.int s.length) else none
  | _ => none
abbrev rLenD (K : PySem.W.Frag) : List V → Hp → VK → Prop := fun xs H Q => (∃ p ys, xs = [.ref p] ∧ (SqL K H p ys ∨ SqT K H p ys) ∧ Q (.int ys.length) H) ∨ ∃ z, xs = [.str z] ∧ z.length ≤ sizeLine ∧ Q (.int z.length) H
theorem ARs.one {R : RC} {H : Hp} {d : D} {xs : List V} (h : ARs R H [d] xs) : ∃ x, xs = [x] ∧ AR R H d x := by
  cases h with
  | cons a b => cases b; exact ⟨_, rfl, a⟩
theorem ARs.two {R : RC} {H : Hp} {d e : D} {xs : List V} (h : ARs R H [d, e] xs) : ∃ x y, xs = [x, y] ∧ AR R H d x ∧ AR R H e y := by
  cases h with
  | cons a b =>
    cases b with
    | cons c d => cases d; exact ⟨_, _, rfl, a, c⟩
theorem lenB_ok : CallS K (rLenD K) lenB := by
  intro R H xs ds d Q hk tr ra e q
  unfold lenB at e
  split at e
  · cases e
    obtain ⟨x, rfl, a⟩ := ra.one
    obtain ⟨p, ys, rfl, h1, r1⟩ := a.lst
    exact .inl ⟨p, ys, rfl, .inl (.inl (.inl h1)), by rw [← r1.len]; exact q _ H (Evl.Ex.refl H) (.int _)⟩
  · cases e
    obtain ⟨x, rfl, a⟩ := ra.one
    obtain ⟨p, ys, rfl, h1, r1⟩ := a.tup
    exact .inl ⟨p, ys, rfl, .inr (by rw [← hk]; exact h1.sq), by rw [← r1.len]; exact q _ H (Evl.Ex.refl H) (.int _)⟩
  · cases e
    obtain ⟨x, rfl, a⟩ := ra.one
    obtain ⟨p, ys, rfl, h1, r1⟩ := a.frz
    exact .inl ⟨p, ys, rfl, .inl (by rw [← hk]; exact h1.sq), by rw [← r1.len]; exact q _ H (Evl.Ex.refl H) (.int _)⟩
  · split at e
    · cases e
      obtain ⟨x, rfl, a⟩ := ra.one
      rw [a.str]
      refine .inr ⟨_, rfl, by rw [len_str]; assumption, ?_⟩
      rw [len_str]
      exact q _ H (Evl.Ex.refl H) (.int _)
    · cases e
  · cases e
theorem cr_lenD {X : Cx} : CallR X (.builtin "len") (rLenD X.K) := call_len_seq.or call_len_str
def absB : List D → Option D
  | [.int i] => some (.int (if i < 0 then -i else i))
  | _ => none
theorem absB_ok : CallS K (fun xs H Q => ∃ i, xs = [V.int i] ∧ Q (.int (if i < 0 then -i else i)) H) absB := by
  intro R H xs ds d Q hk tr ra e q
  unfold absB at e
  split at e
  · cases e
    obtain ⟨x, rfl, a⟩ := ra.one
    rw [a.int]
    exact ⟨_, rfl, q _ H (Evl.Ex.refl H) (.int _)⟩
  · cases e
def intB : List D → Option D
  | [.int i] => some (.int i)
  | [.bl b] => some (.int (if b then 1 else 0))
  | _ => none
theorem intB_ok : CallS K (fun xs H Q => (∃ i, xs = [V.int i] ∧ Q (.int i) H) ∨ ∃ k, xs = [V.bl k] ∧ Q (.int (if k then 1 else 0)) H) intB := by
  intro R H xs ds d Q hk tr ra e q
  unfold intB at e
  split at e
  · cases e
    obtain ⟨x, rfl, a⟩ := ra.one
    rw [a.int]
    exact .inl ⟨_, rfl, q _ H (Evl.Ex.refl H) (.int _)⟩
  · cases e
    obtain ⟨x, rfl, a⟩ := ra.one
    rw [a.bl]
    exact .inr ⟨_, rfl, q _ H (Evl.Ex.refl H) (.int _)⟩
  · cases e
def listB : List D → Option D
  | [.lst ds] => some (.lst ds)
  | [.tup ds] => some (.lst ds)
  | [.frz ds] => some (.lst ds)
  | _ => none
theorem listB_ok : CallS K (fun xs H Q => ∃ p ys, xs = [V.ref p] ∧ (SqL K H p ys ∨ SqT K H p ys) ∧ ∀ l, H l = none → Q (.ref l) (upd H l (.lst ys))) listB := by
  intro R H xs ds d Q hk tr ra e q
  unfold listB at e
  split at e
  · cases e
    obtain ⟨x, rfl, a⟩ := ra.one
    obtain ⟨p, ys, rfl, h1, r1⟩ := a.lst
    refine ⟨p, ys, rfl, .inl (.inl (.inl h1)), fun l hl => ?_⟩
    obtain ⟨ex, dr⟩ := new_lst tr hl r1
    exact q _ _ ex dr
  · cases e
    obtain ⟨x, rfl, a⟩ := ra.one
    obtain ⟨p, ys, rfl, h1, r1⟩ := a.tup
    refine ⟨p, ys, rfl, .inr (by rw [← hk]; exact h1.sq), fun l hl => ?_⟩
    obtain ⟨ex, dr⟩ := new_lst tr hl r1
    exact q _ _ ex dr
  · cases e
    obtain ⟨x, rfl, a⟩ := ra.one
    obtain ⟨p, ys, rfl, h1, r1⟩ := a.frz
    refine ⟨p, ys, rfl, .inl (by rw [← hk]; exact h1.sq), fun l hl => ?_⟩
    obtain ⟨ex, dr⟩ := new_lst tr hl r1
    exact q _ _ ex dr
  · cases e
def tupleB : List D → Option D
  | [.lst ds] => some (.tup ds)
  | [.tup ds] => some (.tup ds)
  | _ => none
theorem tupleB_ok : CallS K (fun xs H Q => ∃ p ys, xs = [V.ref p] ∧ ((SqL K H p ys ∧ ∀ l, H l = none → Q (.ref l) (upd H l (.tup ys))) ∨ (SqT K H p ys ∧ Q (.ref p) H))) tupleB := by
  intro R H xs ds d Q hk tr ra e q
  unfold tupleB at e
  split at e
  · cases e
    obtain ⟨x, rfl, a⟩ := ra.one
    obtain ⟨p, ys, rfl, h1, r1⟩ := a.lst
    refine ⟨p, ys, rfl, .inl ⟨.inl (.inl h1), fun l hl => ?_⟩⟩
    obtain ⟨ex, dr⟩ := new_tup tr hl r1
    exact q _ _ ex dr
  · cases e
    obtain ⟨x, rfl, a⟩ := ra.one
    obtain ⟨p, ys, rfl, h1, r1⟩ := a.tup
    exact ⟨p, ys, rfl, .inr ⟨by rw [← hk]; exact h1.sq, q _ H (Evl.Ex.refl H) (.tup h1 r1)⟩⟩
  · cases e
def sumB : List D → Option D
  | [.lst ds] => (intsD ds).map fun ns => .int ns.sum
  | _ => none
theorem sumB_ok : CallS K (rSum K) sumB := by
  intro R H xs ds d Q hk tr ra e q
  unfold sumB at e
  split at e
  · rename_i es
    cases hn : intsD es with
    | none => simp [hn] at e
    | some ns =>
      simp [hn] at e
      subst e
      obtain ⟨x, rfl, a⟩ := ra.one
      obtain ⟨p, ys, rfl, h1, r1⟩ := a.lst
      exact ⟨p, ns, rfl, by rw [← intsD_ok r1 hn]; exact .inl (.inl h1), q _ H (Evl.Ex.refl H) (.int _)⟩
  · cases e
def allB : List D → Option D
  | [.lst ds] => (boolsD ds).map fun ns => .bl (ns.all id)
  | _ => none
theorem allB_ok : CallS K (rAll K) allB := by
  intro R H xs ds d Q hk tr ra e q
  unfold allB at e
  split at e
  · rename_i es
    cases hn : boolsD es with
    | none => simp [hn] at e
    | some ns =>
      simp [hn] at e
      subst e
      obtain ⟨x, rfl, a⟩ := ra.one
      obtain ⟨p, ys, rfl, h1, r1⟩ := a.lst
      exact ⟨p, ns, rfl, by rw [← boolsD_ok r1 hn]; exact .inl (.inl h1), q _ H (Evl.Ex.refl H) (.bl _)⟩
  · cases e
def anyB : List D → Option D
  | [.lst ds] => (boolsD ds).map fun ns => .bl (ns.any id)
  | _ => none
theorem anyB_ok : CallS K (rAny K) anyB := by
  intro R H xs ds d Q hk tr ra e q
  unfold anyB at e
  split at e
  · rename_i es
    cases hn : boolsD es with
    | none => simp [hn] at e
    | some ns =>
      simp [hn] at e
      subst e
      obtain ⟨x, rfl, a⟩ := ra.one
      obtain ⟨p, ys, rfl, h1, r1⟩ := a.lst
      exact ⟨p, ns, rfl, by rw [← boolsD_ok r1 hn]; exact .inl (.inl h1), q _ H (Evl.Ex.refl H) (.bl _)⟩
  · cases e
def maxB : List D → Option D
  | [.int i, .int j] => some (.int (if j > i then j else i))
  | _ => none
theorem maxB_ok : CallS K (fun xs H Q => ∃ i j, xs = [V.int i, V.int j] ∧ Q (.int (if j > i then j else i)) H) maxB := by
  intro R H xs ds d Q hk tr ra e q
  unfold maxB at e
  split at e
  · cases e
    obtain ⟨x, y, rfl, a, b⟩ := ra.two
    rw [a.int, b.int]
    exact ⟨_, _, rfl, q _ H (Evl.Ex.refl H) (.int _)⟩
  · cases e
def minB : List D → Option D
  | [.int i, .int j] => some (.int (if j < i then j else i))
  | _ => none
theorem minB_ok : CallS K (fun xs H Q => ∃ i j, xs = [V.int i, V.int j] ∧ Q (.int (if j < i then j else i)) H) minB := by
  intro R H xs ds d Q hk tr ra e q
  unfold minB at e
  split at e
  · cases e
    obtain ⟨x, y, rfl, a, b⟩ := ra.two
    rw [a.int, b.int]
    exact ⟨_, _, rfl, q _ H (Evl.Ex.refl H) (.int _)⟩
  · cases e
def strI (i : Int) : List Nat := (toString i : Str).cps.toList
theorem strI_eq (i : Int) : (⟨(strI i).toArray⟩ : Str) = (toString i : Str) := by
  unfold strI
  simp
def strB : List D → Option D
  | [.int i] => if i.natAbs.log2 < 1920 then some (.str (strI i)) else none
  | [.str s] => some (.str s)
  | _ => none
abbrev rStrD : List V → Hp → VK → Prop := fun xs H Q => (∃ i, xs = [V.int i] ∧ i.natAbs.log2 < 1920 ∧ Q (.str (toString i)) H) ∨ ∃ a, xs = [V.str a] ∧ Q (.str a) H
theorem strB_ok : CallS K rStrD strB := by
  intro R H xs ds d Q hk tr ra e q
  unfold strB at e
  split at e
  · split at e
    · cases e
      obtain ⟨x, rfl, a⟩ := ra.one
      rw [a.int]
      refine .inl ⟨_, rfl, by assumption, ?_⟩
      rw [← strI_eq]
      exact q _ H (Evl.Ex.refl H) (.str _)
    · cases e
  · cases e
    obtain ⟨x, rfl, a⟩ := ra.one
    rw [a.str]
    exact .inr ⟨_, rfl, q _ H (Evl.Ex.refl H) (.str _)⟩
  · cases e
theorem cr_strD {X : Cx} : CallR X (.type "str") rStrD := call_str_int.or SkE.call_str_str
end

/-! ### repr -/
mutual
def toPy : D → Option PyData
  | .non => some .none
  | .bl b => some (.bool b)
  | .int i => some (.int i)
  | .str s => some (.str ⟨s.toArray⟩)
  | .lst xs => (toPys xs).map .list
  | .tup xs => (toPys xs).map .tuple
  | _ => none
def toPys : List D → Option (List PyData)
  | [] => some []
  | d :: ds => match toPy d, toPys ds with
    | some p, some ps => some (p :: ps)
    | _, _ => none
end
theorem map_some {α β : Type} {f : α → β} {o : Option α} {b : β} (h : o.map f = some b) : ∃ a, o = some a ∧ f a = b := by
  cases o with
  | none => simp at h
  | some a => exact ⟨a, rfl, by simpa using h⟩
section
variable {X : Cx} {pins : List (Addr × Obj)} {σ : St} {H : Hp} {s : Shared} {R : RC}
mutual
theorem py_reads (I : Inv X pins σ H s) (hK : R.K = X.K) : ∀ {d : D} {x : V} {u : Value} {p : PyData}, DR R H d x → RelV x u → toPy d = some p → ∃ as, Reads s.heap u p as
  | _, _, _, _, .non, ru, h => by
    cases ru; cases h
    exact ⟨_, Reads.none⟩
  | _, _, _, _, .bl b, ru, h => by
    cases ru; cases h
    exact ⟨_, Reads.bool b⟩
  | _, _, _, _, .int i, ru, h => by
    obtain ⟨t, rfl⟩ := ru; cases h
    exact ⟨_, Reads.int i t⟩
  | _, _, _, _, .str y, ru, h => by
    obtain ⟨t, rfl⟩ := ru; cases h
    exact ⟨_, Reads.str _ t⟩
  | _, _, _, _, .lst h1 h2, ru, h => by
    cases ru
    unfold toPy at h
    obtain ⟨ps, e1, e2⟩ := map_some h
    subst e2
    obtain ⟨its, rv, ⟨o, n, ho, hc, _, hd⟩, _⟩ := I.list (by rw [← hK]; exact h1.sq)
    obtain ⟨as, hr⟩ := pys_reads I hK h2 rv e1
    exact ⟨_, Reads.list ho hc hd hr⟩
  | _, _, _, _, .tup h1 h2, ru, h => by
    cases ru
    unfold toPy at h
    obtain ⟨ps, e1, e2⟩ := map_some h
    subst e2
    obtain ⟨its, rv, ⟨o, ho, hc, n, hd⟩, _⟩ := I.tuple (by rw [← hK]; exact h1.sq)
    obtain ⟨as, hr⟩ := pys_reads I hK h2 rv e1
    exact ⟨_, Reads.tuple ho hc hd hr⟩
  | _, _, _, _, .frz h1 h2, ru, h => by cases h
  | _, _, _, _, .dct h1 h2 h3, ru, h => by cases h
theorem pys_reads (I : Inv X pins σ H s) (hK : R.K = X.K) : ∀ {ds : List D} {xs : List V} {us : List Value} {ps : List PyData}, DRs R H ds xs → Vals xs us → toPys ds = some ps → ∃ as, ReadsAll s.heap us ps as
  | _, _, _, _, .nil, rv, h => by
    cases rv; cases h
    exact ⟨_, ReadsAll.nil⟩
  | _, _, _, _, .cons (d := d) (ds := ds) a b, rv, h => by
    cases rv with
    | cons r1 r2 =>
      unfold toPys at h
      cases h1 : toPy d with
      | none => simp [h1] at h
      | some p =>
        cases h2 : toPys ds with
        | none => simp [h1, h2] at h
        | some ps =>
          simp [h1, h2] at h
          subst h
          obtain ⟨as, q1⟩ := py_reads I hK a r1 h1
          obtain ⟨bs, q2⟩ := pys_reads I hK b r2 h2
          exact ⟨_, ReadsAll.cons q1 q2⟩
end
end
/-- what repr shows -/
def shw (p : PyData) : Option (List Nat) := if p.showable && !p.hasDict && decide (p.depth ≤ 60) && decide (p.shown.length ≤ sizeLine) then some p.shown.cps.toList else none
def reprB : List D → Option D
  | [d] => (toPy d).bind fun p => (shw p).map .str
  | _ => none
def rRepr (K : PySem.W.Frag) : List V → Hp → VK → Prop := fun xs H Q => ∃ x d p t, xs = [x] ∧ DR ⟨K, fun _ => False⟩ H d x ∧ toPy d = some p ∧ shw p = some t ∧ Q (.str ⟨t.toArray⟩) H
theorem reprB_ok {K : PySem.W.Frag} : CallS K (rRepr K) reprB := by
  intro R H xs ds d Q hk tr ra e q
  unfold reprB at e
  split at e
  · rename_i d0
    cases h1 : toPy d0 with
    | none => simp [h1] at e
    | some p =>
      simp [h1] at e
      obtain ⟨t, h2, h3⟩ := e
      subst h3
      obtain ⟨x, rfl, a⟩ := ra.one
      have e1 : R.z = ⟨K, fun _ => False⟩ := by unfold RC.z; rw [hk]
      exact ⟨x, d0, p, t, rfl, by rw [← e1]; exact a.z, h1, h2, q _ H (Evl.Ex.refl H) (.str _)⟩
  · cases e
theorem shw_ok {p : PyData} {t : List Nat} (h : shw p = some t) : p.showable = true ∧ p.hasDict = false ∧ p.depth ≤ 60 ∧ p.shown.length ≤ sizeLine ∧ p.shown = ⟨t.toArray⟩ := by
  unfold shw at h
  split at h
  · rename_i hc
    simp only [Bool.and_eq_true, decide_eq_true_eq, Bool.not_eq_true'] at hc
    refine ⟨hc.1.1.1, hc.1.1.2, hc.1.2, hc.2, ?_⟩
    cases h
    simp
  · cases h
theorem cr_repr {X : Cx} (hg : X.A.guards = some []) (hu : X.A.units + 64 < cLine) : CallR X (.builtin "repr") (rRepr X.K) := by
  intro pins s σ H xs us Q I r h
  obtain ⟨x, d, p, t, rfl, dr, h1, h2, q⟩ := h
  obtain ⟨u, rfl, r1⟩ := vals1 r
  obtain ⟨as, rd⟩ := py_reads I rfl dr r1 h1
  obtain ⟨s1, s2, s3, s4, s5⟩ := shw_ok h2
  have fin : ∀ (h' : Heap) (tk : Tok) (n : Nat), (∀ b o, s.heap.get? b = some o → h'.get? b = some o) → EP X pins σ Q (.str p.shown tk) { s with heap := h', toks := n } := fun h' tk n k =>
    ⟨.str ⟨t.toArray⟩, H, I.kept (t' := n) k, ⟨tk, by rw [s5]⟩, q⟩
  cases rd with
  | none =>
    have e : PyData.shown .none = "None" := by simp only [PyData.shown]
    exact PySem.P.repr_of_none (by rw [← e]; exact fin _ _ _ fun _ _ z => z)
  | bool b =>
    have e : PyData.shown (.bool b) = (if b then Str.ofString "True" else Str.ofString "False") := by cases b <;> simp only [PyData.shown] <;> rfl
    exact PySem.P.repr_of_bool (by rw [← e]; exact fin _ _ _ fun _ _ z => z)
  | int i tk =>
    have e : PyData.shown (.int i) = toString i := by simp only [PyData.shown]
    exact PySem.P.repr_of_int (by simpa [PyData.showable] using s1) (by rw [← e]; exact fin _ _ _ fun _ _ z => z)
  | str z tk =>
    have e : PyData.shown (.str z) = reprText z := by simp only [PyData.shown]
    exact PySem.P.repr_of_str (by rw [← e]; exact fin _ _ _ fun _ _ z => z) (by rw [← e]; exact s4)
  | list k1 k2 k3 k4 =>
    exact repr_of_reads' (.list k1 k2 k3 k4) s1 (fun z => by rw [s2] at z; cases z) hg (by omega) (fun _ _ z => z) (fun h' u tk k => fin h' u tk k) s4
  | tuple k1 k2 k3 k4 =>
    exact repr_of_reads' (.tuple k1 k2 k3 k4) s1 (fun z => by rw [s2] at z; cases z) hg (by omega) (fun _ _ z => z) (fun h' u tk k => fin h' u tk k) s4
  | dict k1 k2 k3 k4 k5 =>
    simp [PyData.hasDict] at s2

/-! ### isinstance -/
inductive Ty where
  | int | bool | str | tuple | list | dict
def Ty.nm : Ty → String
  | .int => "int" | .bool => "bool" | .str => "str" | .tuple => "tuple" | .list => "list" | .dict => "dict"
def isiD : Ty → D → Option Bool
  | t, .non => some false
  | .int, .bl _ => some true
  | .bool, .bl _ => some true
  | _, .bl _ => some false
  | .int, .int _ => some true
  | _, .int _ => some false
  | .str, .str _ => some true
  | _, .str _ => some false
  | .tuple, .tup _ => some true
  | _, .tup _ => some false
  | .list, .lst _ => some true
  | _, .lst _ => some false
  | .dict, .dct _ => some true
  | _, .dct _ => some false
  | _, _ => none
theorem kit_all : ∀ t : Ty, kitB "NoneType" t.nm = some false ∧ kitB "bool" t.nm = some (match t with | .int => true | .bool => true | _ => false) ∧ kitB "int" t.nm = some (match t with | .int => true | _ => false) ∧
    kitB "str" t.nm = some (match t with | .str => true | _ => false) ∧ kitB "tuple" t.nm = some (match t with | .tuple => true | _ => false) ∧ kitB "list" t.nm = some (match t with | .list => true | _ => false) ∧ kitB "dict" t.nm = some (match t with | .dict => true | _ => false) := by
  intro t
  cases t <;> decide +kernel
theorem isi_ok {K : PySem.W.Frag} {R : RC} {H : Hp} {t : Ty} {d : D} {x : V} {b : Bool} (hk : R.K = K) (a : AR R H d x) (h : isiD t d = some b) : ∃ ty, TyX K H x ty ∧ PySem.W.kitOne K ty (.type t.nm) = some b := by
  obtain ⟨k1, k2, k3, k4, k5, k6, k7⟩ := kit_all t
  cases d with
  | non =>
    rw [a.non]
    refine ⟨_, .base .non, kit_ty ?_⟩
    cases t <;> cases h <;> exact k1
  | bl c =>
    rw [a.bl]
    refine ⟨_, .base (.bl c), kit_ty ?_⟩
    cases t <;> cases h <;> exact k2
  | int i =>
    rw [a.int]
    refine ⟨_, .base (.int i), kit_ty ?_⟩
    cases t <;> cases h <;> exact k3
  | str y =>
    rw [a.str]
    refine ⟨_, .base (.str _), kit_ty ?_⟩
    cases t <;> cases h <;> exact k4
  | lst ds =>
    obtain ⟨p, xs, rfl, h1, _⟩ := a.lst
    refine ⟨_, .base (.lst h1), kit_ty ?_⟩
    cases t <;> cases h <;> exact k6
  | tup ds =>
    obtain ⟨p, xs, rfl, h1, _⟩ := a.tup
    have ty : TyX K H (.ref p) (.type "tuple") := by
      rcases h1.sq with (h2 | ⟨o, h2⟩) | ⟨o, its, n, h2, h3, _⟩
      · exact .base (.tup h2)
      · exact .fTuple h2
      · exact .kTuple (by rw [← hk]; exact h2) h3
    refine ⟨_, ty, kit_ty ?_⟩
    cases t <;> cases h <;> exact k5
  | dct kvs =>
    obtain ⟨p, xs, rfl, h1, _⟩ := a.dct
    refine ⟨_, .base (.dK h1), kit_ty ?_⟩
    cases t <;> cases h <;> exact k7
  | frz ds => cases t <;> cases h
  | ref l => cases t <;> cases h
end Mi
set_option Elab.async false
set_option linter.all false
set_option maxRecDepth 100000
set_option maxHeartbeats 2000000
/-! M8: what a loop walks -/
namespace Mi
open PySem L2

/-- later: the context, all that stood stands, what may be written is there -/
structure Lt (R : RC) (H : Hp) (R' : RC) (H' : Hp) : Prop where
  to : To R H R' H'
  al : ∀ a o, H a = some o → ∃ u, H' a = some u
  tr : ∀ z, R'.M z → ∃ o, H' z = some o
theorem Lt.trans {R R1 R2 : RC} {H H1 H2 : Hp} (a : Lt R H R1 H1) (b : Lt R1 H1 R2 H2) : Lt R H R2 H2 :=
  ⟨a.to.trans b.to fun x h => al_none a.al h, fun x o h => by
    obtain ⟨u, q⟩ := a.al x o h
    exact b.al x u q, b.tr⟩
theorem Lt.ex {R R' : RC} {H H' H2 : Hp} (a : Lt R H R' H') (e : Evl.Ex H' H2) : Lt R H R' H2 :=
  a.trans ⟨To.ex e, fun x o h => ⟨o, e x o h⟩, fun z h => by
    obtain ⟨o, q⟩ := a.tr z h
    exact ⟨o, e z o q⟩⟩
theorem Lt.refl {R : RC} {H : Hp} (tr : ∀ z, R.M z → ∃ o, H z = some o) : Lt R H R H := ⟨To.refl, fun _ o h => ⟨o, h⟩, tr⟩
theorem Nx.lt {R R' : RC} {ρ ρ' : En} {σ : St} {H H' : Hp} (e : EnR R H ρ σ) (n : Nx R ρ σ H R' ρ' H') : Lt R H R' H' := ⟨n.to e, n.al, n.en.tr⟩
theorem Ns.lt {R R' : RC} {ρ ρ' : En} {σ σ' : St} {H H' : Hp} (e : EnR R H ρ σ) (n : Ns R ρ σ H R' ρ' σ' H') : Lt R H R' H' := ⟨n.to e, n.al, n.en.tr⟩

/-- the iterator J gives ds, from here on -/
def WD (R : RC) (H : Hp) (J : It) (ds : List D) : Prop := ∃ (G : Hp → Prop) (Y : Nat → Hp → V → Hp → Prop), Walk J ds.length G Y ∧ (∀ R' H', Lt R H R' H' → G H') ∧
  ∀ i R' H' x H2, i < ds.length → Lt R H R' H' → Y i H' x H2 → Evl.Ex H' H2 ∧ ∃ d, ds[i]? = some d ∧ DR R' H2 d x
theorem WD.lt {R R' : RC} {H H' : Hp} {J : It} {ds : List D} (w : WD R H J ds) (l : Lt R H R' H') : WD R' H' J ds := by
  obtain ⟨G, Y, h1, h2, h3⟩ := w
  exact ⟨G, Y, h1, fun R2 H2 l2 => h2 R2 H2 (l.trans l2), fun i R2 H2 x H3 hi l2 y => h3 i R2 H2 x H3 hi (l.trans l2) y⟩
theorem DRs.at {R : RC} {H : Hp} {ds : List D} {xs : List V} {i : Nat} {x : V} (r : DRs R H ds xs) (h : xs[i]? = some x) : ∃ d, ds[i]? = some d ∧ DR R H d x := r.getV h
theorem ex_refl {H : Hp} : Evl.Ex H H := fun _ _ h => h
section
variable {R : RC} {H : Hp} {a b : Addr} {ds es : List D} {xs ys : List V}
theorem wd_list (h : ∀ R' H', Lt R H R' H' → SqL R.K H' a xs) (r : DRs R H ds xs) : WD R H (Itl R.K a) ds := by
  refine ⟨fun H' => SqL R.K H' a xs, YAt xs, by rw [r.len]; exact walk_list, h, fun i R' H' x H2 hi l y => ?_⟩
  obtain ⟨rfl, hx⟩ := y
  exact ⟨ex_refl, (r.to l.to).at hx⟩
theorem wd_tup (h : ∀ R' H', Lt R H R' H' → SqT R.K H' a xs) (r : DRs R H ds xs) : WD R H (Itt R.K a) ds := by
  refine ⟨fun H' => SqT R.K H' a xs, YAt xs, by rw [r.len]; exact walk_tup, h, fun i R' H' x H2 hi l y => ?_⟩
  obtain ⟨rfl, hx⟩ := y
  exact ⟨ex_refl, (r.to l.to).at hx⟩
theorem sq_lst (h : LsAt R H a xs) : ∀ R' H', Lt R H R' H' → SqL R.K H' a xs := fun R' H' l => by
  have := (h.to l.to).sq
  rwa [l.to.k] at this
theorem sq_frz (h : FzAt R H a xs) : ∀ R' H', Lt R H R' H' → SqL R.K H' a xs := fun R' H' l => by
  have := (h.to l.to).sq
  rwa [l.to.k] at this
theorem sq_tup (h : TpAt R H a xs) : ∀ R' H', Lt R H R' H' → SqT R.K H' a xs := fun R' H' l => by
  have := (h.to l.to).sq
  rwa [l.to.k] at this
def chars (s : List Nat) : List D := s.map fun c => .str [c]
theorem wd_str (s : List Nat) : WD R H (Its ⟨s.toArray⟩) (chars s) := by
  have hw := walk_str (z := ⟨s.toArray⟩)
  have hl : (chars s).length = (⟨s.toArray⟩ : Str).cps.size := by simp [chars]
  refine ⟨fun _ => True, _, by rw [hl]; exact hw, fun _ _ _ => trivial, fun i R' H' x H2 hi l y => ?_⟩
  obtain ⟨rfl, c, hc, rfl⟩ := y
  refine ⟨ex_refl, .str [c], ?_, .str [c]⟩
  have hc : s[i]? = some c := by simpa using hc
  simp [chars, hc]
def rngD (lo : Int) (n : Nat) : List D := (List.range n).map fun i => .int (lo + (i : Nat))
theorem wd_range (lo : Int) (n : Nat) : WD R H (Itr lo n) (rngD lo n) := by
  refine ⟨fun _ => True, YFn fun i => .int (lo + i), by rw [show (rngD lo n).length = n by simp [rngD]]; exact walk_range, fun _ _ _ => trivial, fun i R' H' x H2 hi l y => ?_⟩
  obtain ⟨rfl, rfl⟩ := y
  refine ⟨ex_refl, .int (lo + i), ?_, .int _⟩
  have hi : i < n := by simpa [rngD] using hi
  simp [rngD, hi]
def enumD (i : Nat) : List D → List D
  | [] => []
  | d :: ds => .tup [.int (i : Nat), d] :: enumD (i + 1) ds
theorem enumD_len : ∀ {ds : List D} {i : Nat}, (enumD i ds).length = ds.length
  | [], _ => rfl
  | _ :: ds, i => by simp [enumD, enumD_len (ds := ds)]
theorem enumD_get : ∀ {ds : List D} {k i : Nat} {d : D}, ds[i]? = some d → (enumD k ds)[i]? = some (.tup [.int ((k + i : Nat) : Int), d])
  | [], _, _, _, h => by simp at h
  | d :: ds, k, 0, _, h => by
    simp at h
    subst h
    rfl
  | d :: ds, k, i + 1, e, h => by
    have := enumD_get (ds := ds) (k := k + 1) (i := i) (d := e) (by simpa using h)
    simp only [enumD, List.getElem?_cons_succ, this]
    congr 5
    omega
/-- a new pair -/
theorem pair_dr {R' : RC} {H' : Hp} (tr : ∀ z, R'.M z → ∃ o, H' z = some o) {T : Addr} (hT : H' T = none) {d e : D} {x y : V} (rx : DR R' H' d x) (ry : DR R' H' e y) : Evl.Ex H' (upd H' T (.tup [x, y])) ∧ DR R' (upd H' T (.tup [x, y])) (.tup [d, e]) (.ref T) :=
  new_tup tr hT (.cons rx (.cons ry .nil))
theorem wd_enum {J : It} (hw : Walk J xs.length (fun H' => ∃ R', Lt R H R' H') (YPair (fun i => some (.int (i : Nat))) (fun i => xs[i]?))) (r : DRs R H ds xs) : WD R H J (enumD 0 ds) := by
  refine ⟨fun H' => ∃ R', Lt R H R' H', _, by rw [enumD_len, r.len]; exact hw, fun R' H' l => ⟨R', l⟩, fun i R' H' x H2 hi l y => ?_⟩
  obtain ⟨T, x1, y1, rfl, hT, rfl, e1, e2⟩ := y
  cases e1
  obtain ⟨d, hd, rd⟩ := (r.to l.to).at e2
  obtain ⟨ex, dr⟩ := pair_dr l.tr hT (DR.int (i : Nat)) rd
  refine ⟨ex, _, ?_, dr⟩
  have := enumD_get (k := 0) hd
  rwa [Nat.zero_add] at this
def zipD : List D → List D → List D
  | d :: ds, e :: es => .tup [d, e] :: zipD ds es
  | _, _ => []
theorem zipD_len : ∀ {ds es : List D}, (zipD ds es).length = min ds.length es.length
  | [], _ => by simp [zipD]
  | _ :: _, [] => by simp [zipD]
  | d :: ds, e :: es => by simp [zipD, zipD_len (ds := ds)]
theorem zipD_get : ∀ {ds es : List D} {i : Nat} {d e : D}, ds[i]? = some d → es[i]? = some e → (zipD ds es)[i]? = some (.tup [d, e])
  | [], _, _, _, _, h, _ => by simp at h
  | _ :: _, [], _, _, _, _, h => by simp at h
  | d :: ds, e :: es, 0, _, _, h, h' => by
    simp at h h'
    subst h; subst h'
    rfl
  | d :: ds, e :: es, i + 1, _, _, h, h' => by
    simpa [zipD] using zipD_get (ds := ds) (es := es) (i := i) (by simpa using h) (by simpa using h')
theorem wd_zip {J : It} (hw : Walk J (min xs.length ys.length) (fun H' => ∃ R', Lt R H R' H') (YPair (fun i => xs[i]?) (fun i => ys[i]?))) (r : DRs R H ds xs) (q : DRs R H es ys) : WD R H J (zipD ds es) := by
  refine ⟨fun H' => ∃ R', Lt R H R' H', _, by rw [zipD_len, r.len, q.len]; exact hw, fun R' H' l => ⟨R', l⟩, fun i R' H' x H2 hi l y => ?_⟩
  obtain ⟨T, x1, y1, rfl, hT, rfl, e1, e2⟩ := y
  obtain ⟨d, hd, rd⟩ := (r.to l.to).at e1
  obtain ⟨e, he, re⟩ := (q.to l.to).at e2
  obtain ⟨ex, dr⟩ := pair_dr l.tr hT rd re
  exact ⟨ex, _, zipD_get hd he, dr⟩
end

/-! ### what comes to be walked -/
def AfterI (W : WX) (R : RC) (ρ : En) (σ : St) (H : Hp) (Q : It → Hp → Prop) : R3 (List D) → Prop
  | .ok ds ρ' => ∀ R' J H', Nx R ρ σ H R' ρ' H' → WD R' H' J ds → Q J H'
  | .ex x ρ' => ∀ R' H' cls d, Nx R ρ σ H R' ρ' H' → ExR R' H' x cls d → W cls d σ H'
def iD (K : PySem.W.Frag) (W : WX) (f : Mo (List D)) : TI := fun σ H Q => ∃ R ρ r, R.K = K ∧ EnR R H ρ σ ∧ f ρ = some r ∧ AfterI W R ρ σ H Q r
theorem PI.imp {X : Cx} {tg e : Expr} {t t' : TI} (h : PI X tg e t) (i : ∀ σ H Q, t' σ H Q → t σ H Q) : PI X tg e t' := ⟨fun pins s σ H Q I q => h.run pins s σ H Q I (i σ H Q q)⟩
theorem PI.or {X : Cx} {tg e : Expr} {t t' : TI} (h : PI X tg e t) (h' : PI X tg e t') : PI X tg e (fun σ H Q => t σ H Q ∨ t' σ H Q) := ⟨fun pins s σ H Q I q => q.elim (h.run pins s σ H Q I) (h'.run pins s σ H Q I)⟩
/-- what a value gives -/
def seqD : D → Option (List D)
  | .lst ds => some ds
  | .tup ds => some ds
  | .frz ds => some ds
  | .str s => some (chars s)
  | _ => none
theorem seq_it {K : PySem.W.Frag} {W : WX} {R1 : RC} {H1 : Hp} {x : V} {d : D} {ds : List D} {Q : It → Hp → Prop} (hk : R1.K = K) (r : DR R1 H1 d x) (h : seqD d = some ds) (q : ∀ J, WD R1 H1 J ds → Q J H1) :
    (∃ a, x = .ref a ∧ (∃ xs, SqL K H1 a xs) ∧ Q (Itl K a) H1) ∨ (∃ a, x = .ref a ∧ (∃ xs, SqT K H1 a xs) ∧ Q (Itt K a) H1) ∨ ∃ z, x = .str z ∧ Q (Its z) H1 := by
  subst hk
  cases r with
  | non => cases h
  | bl b => cases h
  | int i => cases h
  | str s =>
    cases h
    exact .inr (.inr ⟨_, rfl, q _ (wd_str s)⟩)
  | lst h1 h2 =>
    cases h
    exact .inl ⟨_, rfl, ⟨_, h1.sq⟩, q _ (wd_list (sq_lst h1) h2)⟩
  | tup h1 h2 =>
    cases h
    exact .inr (.inl ⟨_, rfl, ⟨_, h1.sq⟩, q _ (wd_tup (sq_tup h1) h2)⟩)
  | frz h1 h2 =>
    cases h
    exact .inl ⟨_, rfl, ⟨_, h1.sq⟩, q _ (wd_list (sq_frz h1) h2)⟩
  | dct h1 h2 h3 => cases h
section
variable {X : Cx} {W : WX} {tg e e2 : Expr} {p pos tpos : Pos} {f g : Mo Hd}
def seqM (f : Mo Hd) : Mo (List D) := Mo.bind f fun h => Mo.bind (freeze h) fun d => Mo.lift (seqD d)
/-- frozen first -/
theorem frz_after {K : PySem.W.Frag} {β : Type} {f : Mo Hd} {k : D → Option (List D)} {R : RC} {ρ : En} {σ : St} {H : Hp} {r : R3 (List D)} {Q : It → Hp → Prop} {Q2 : VK} (hk : R.K = K) (e : EnR R H ρ σ)
    (h : Mo.bind f (fun h => Mo.bind (freeze h) fun d => Mo.lift (k d)) ρ = some r) (q : AfterI W R ρ σ H Q r)
    (step : ∀ R1 ρ1 H1 x d ds, R1.K = K → EnR R1 H1 ρ1 σ → DR R1 H1 d x → k d = some ds → (∀ R' J H', Nx R1 ρ1 σ H1 R' ρ1 H' → WD R' H' J ds → Q J H') → Q2 x H1) : tA K W f σ H Q2 := by
  rcases bind_ok h with ⟨a, ρ1, h1, h2⟩ | ⟨x, ρ1, h1, rfl⟩
  · refine ⟨R, ρ, _, hk, e, h1, fun R1 x H1 n1 r1 => ?_⟩
    rcases bind_ok h2 with ⟨d, ρ2, h3, h4⟩ | ⟨x, ρ2, h3, _⟩
    · obtain ⟨R2, n2, r2⟩ := freeze_ok n1.en r1 h3
      unfold Mo.lift at h4
      cases hd : k d with
      | none => simp [hd] at h4
      | some ds =>
        simp [hd] at h4
        subst h4
        have nn := n1.trans n2
        exact step R2 ρ2 H1 x d ds (nn.k.trans hk) n2.en r2 hd fun R' J H' n w => q R' J H' (nn.trans n) w
    · exact (freeze_no h3).elim
  · exact ⟨R, ρ, _, hk, e, h1, q⟩
theorem pi_seq (he : PE X e (tA X.K W f)) : PI X tg e (iD X.K W (seqM f)) := by
  refine PI.imp (t := fun σ H Q => tA X.K W f σ H fun x H1 => (∃ a, x = .ref a ∧ (∃ xs, SqL X.K H1 a xs) ∧ Q (Itl X.K a) H1) ∨ (∃ a, x = .ref a ∧ (∃ xs, SqT X.K H1 a xs) ∧ Q (Itt X.K a) H1) ∨ ∃ z, x = .str z ∧ Q (Its z) H1) ⟨fun pins s σ H Q I h => ?_⟩ ?_
  · skip
    refine thn (he.run pins s σ H _ I h) fun v s1 ⟨x, H1, I1, r1, q1⟩ => ?_
    rcases q1 with q | q | q
    · obtain ⟨a, rfl, ⟨xs, hq⟩, q⟩ := q
      cases r1
      obtain ⟨its, rv, p, hz⟩ := I1.list hq
      refine wpAny_pyIter_list p.isList ?_
      refine ⟨s1.heap.objs.size, [s1.heap.objs.size], _, _, H1, rfl, I1.kept (t' := s1.toks) fun b o e => Heap.get?_push_of_some _ e, turn_list a _, ⟨_, Heap.get?_push_size _ rfl, rfl, rfl⟩, fun b hb => ?_, q⟩
      have e : b = s1.heap.objs.size := by simpa using hb
      subst e
      exact I1.fpOk (Nat.le_refl _) (I1.hok.fresh (Nat.le_refl _))
    · obtain ⟨a, rfl, ⟨xs, hq⟩, q⟩ := q
      cases r1
      obtain ⟨its, rv, p, hz⟩ := I1.tuple hq
      refine wpAny_pyIter_tuple (show s1.heap.IsTuple a its.toArray from p) ?_
      refine ⟨s1.heap.objs.size, [s1.heap.objs.size], _, _, H1, rfl, I1.kept (t' := s1.toks) fun b o e => Heap.get?_push_of_some _ e, turn_tuple a _, ⟨_, Heap.get?_push_size _ rfl, rfl, rfl⟩, fun b hb => ?_, q⟩
      have e : b = s1.heap.objs.size := by simpa using hb
      subst e
      exact I1.fpOk (Nat.le_refl _) (I1.hok.fresh (Nat.le_refl _))
    · obtain ⟨x, rfl, q⟩ := q
      obtain ⟨t, rfl⟩ := r1
      cases ha : x.cps.all (· < 128)
      · exact wpAny_pyIter_wide ha (pi_one (tk := s1.toks) I1 _ (turn_str _ x t "str_iterator" (.inr rfl)) ⟨_, Heap.get?_push_size _ rfl, rfl, rfl⟩ q)
      · exact wpAny_pyIter_ascii ha (pi_one (tk := s1.toks) I1 _ (turn_str _ x t "str_ascii_iterator" (.inl rfl)) ⟨_, Heap.get?_push_size _ rfl, rfl, rfl⟩ q)
  · rintro σ H Q ⟨R, ρ, r, hk, en, hf, q⟩
    refine frz_after (β := Unit) hk en hf q fun R1 ρ1 H1 x d ds hk1 en1 dr hd q1 => ?_
    exact seq_it (W := W) hk1 dr hd fun J w => q1 R1 J H1 (Nx.refl en1) w
end
end Mi
set_option Elab.async false
set_option linter.all false
set_option maxRecDepth 100000
set_option maxHeartbeats 2000000
/-! M9: enumerate over a tuple; range, enumerate, zip -/
namespace Mi
open PySem PySem.Spec L2
open PyProof.Rows hiding St

theorem enum_new1 {v : Value} {o : Obj} {H : Heap → Prop} (B : Begins v o H) :
    Meets (Builtin.«enumerate.__new__» ⟨[.type "enumerate", v], []⟩) (fun _ R s => H s.heap ∧
      R (.ok (.ret (.ref (s.heap.push o).objs.size))) { s with heap := (s.heap.push o).push { cls := .type "enumerate", data := .fields #[.none, .bool false, .ref s.heap.objs.size, rawInt 0, .none, .none] } }) :=
  .of_wp fun prog w A R s h => by
    obtain ⟨hp, g, d, tk, os⟩ := s
    obtain ⟨h1, h⟩ := h
    have sub1 := sub_enumerate
    have step : ∀ {A' : Around} {E' : Value → Shared → Prop} {Q' : Value → Shared → Prop}, Q' (.ref hp.objs.size) ⟨hp.push o, g, d, tk, os⟩ → wpAny (model prog w) A' (pyIter v) Q' E' ⟨hp, g, d, tk, os⟩ :=
      fun z => B.iter prog w _ _ ⟨hp, g, d, tk, os⟩ _ h1 z
    wp_walk using step
    refine wpAny_stack_any fun st => wpAny_pure ?_
    split
    · rename_i c _ _ _ _ _
      cases (c == Value.type "enumerate")
      · wp_walk using step
        exact ⟨_, rfl, h⟩
      · wp_walk using step
        exact ⟨_, rfl, h⟩
    · wp_walk using step
      exact ⟨_, rfl, h⟩
theorem enum_call1 {prog : Program} {w : World} {A : Around} {E : Value → Shared → Prop} {s : Shared} {v : Value} {o : Obj} {H : Heap → Prop} {Q : Value → Shared → Prop} (B : Begins v o H) (h1 : H s.heap)
    (h : ∀ h', IsEnum h' (s.heap.objs.size + 1) s.heap.objs.size 0 .none → h'.get? s.heap.objs.size = some o → h'.objs.size = s.heap.objs.size + 2 →
      (∀ b u, s.heap.get? b = some u → h'.get? b = some u) → Q (.ref (s.heap.objs.size + 1)) { s with heap := h' }) :
    wpAny (model prog w) A (call (.type "enumerate") [v]) Q E s := by
  refine callType_new F.called_enumerate (by decide) (F.typeCall_enumerate_1 _) (F.newCall_enumerate_1 _) (fun obj => F.args_object_init_2 obj _) F.entry_enumerate_new
    (enum_new1 B) ⟨h1, ?_⟩
  have sz : (s.heap.push o).objs.size = s.heap.objs.size + 1 := Heap.size_push ..
  show _ ∧ _
  rw [sz]
  have en : IsEnum ((s.heap.push o).push { cls := .type "enumerate", data := .fields #[.none, .bool false, .ref s.heap.objs.size, rawInt 0, .none, .none] }) (s.heap.objs.size + 1) s.heap.objs.size 0 .none := by
    have z := Heap.get?_push_size (s.heap.push o) (o := { cls := .type "enumerate", data := .fields #[.none, .bool false, .ref s.heap.objs.size, rawInt 0, .none, .none] }) rfl
    rw [sz] at z
    exact z
  refine ⟨⟨_, en, rfl⟩, h _ en (Heap.get?_push_of_some _ (Heap.get?_push_size _ B.free)) (by rw [Heap.size_push, sz]) fun b u x => Heap.get?_push_of_some _ (Heap.get?_push_of_some _ x)⟩
/-- the tuple at a, each item in a new pair with its index -/
def IteT (K : PySem.W.Frag) (a : Addr) : It :=
  ⟨fun i H => ∃ (xs : List V) (x : V), SqT K H a xs ∧ xs[i]? = some x, fun i H v H' => ∃ T x, v = .ref T ∧ H T = none ∧ H' = upd H T (.tup [.int (i : Nat), x]) ∧ ∀ xs, SqT K H a xs → xs[i]? = some x, fun i H => ∃ xs : List V, SqT K H a xs ∧ xs.length = i⟩
theorem turn_enumT {P : Program} {w : World} {K : PySem.W.Frag} {elts : List Expr} {kk : Nat} {tpos : Pos} (a e it : Addr) :
    Turn P w K (.Tuple elts kk tpos) (IteT K a) [e, it] e (fun i h => (∃ old, IsEnum h e it ((i : Nat) : Int) old) ∧ h.IsTupleIter it a i ∧ e ≠ it) where
  mem := by simp
  obj := fun i h st b hb => by
    obtain ⟨⟨old, he⟩, ⟨o, ho, hc, hd⟩, _⟩ := st
    have e' : b = e ∨ b = it := by simpa using hb
    rcases e' with z | z
    · rw [z]
      exact ⟨_, he, fun v q => nomatch q⟩
    · rw [z]
      exact ⟨o, ho, fun v q => by rw [hd] at q; cases q⟩
  keep := fun i h h' st k => let ⟨⟨old, he⟩, hi, hne⟩ := st; ⟨⟨old, k e (by simp) _ he⟩, hi.at fun o q => k it (by simp) o q, hne⟩
  item := by
    intro X hP hw hK hc i pins s σ H E I hf st hg
    subst hP hw hK
    obtain ⟨⟨old, he⟩, hit, hne⟩ := st
    obtain ⟨xs, x, hq, hx⟩ := hg
    obtain ⟨its, rv, p, hz⟩ := I.tuple hq
    obtain ⟨u, hu, ru⟩ := rv.get hx
    have hel : e < s.heap.objs.size := Heap.lt_size he
    have hil : it < s.heap.objs.size := by
      obtain ⟨_, q, _⟩ := hit
      exact Heap.lt_size q
    have p' : s.heap.IsTuple a its.toArray := p
    have hai : a ≠ it := by
      rintro rfl
      obtain ⟨o1, q1, c1, d1⟩ := id hit
      obtain ⟨o2, q2, c2, _⟩ := id p'
      rw [q1] at q2
      cases q2
      rw [c1] at c2
      exact absurd c2 (by decide)
    have hae : e ≠ a := by
      rintro rfl
      obtain ⟨o2, q2, c2, _⟩ := id p'
      rw [he] at q2
      cases q2
      exact Value.noConfusion c2 fun z => absurd z (by decide)
    have dr := Draws.tuple (prog := X.prog) (w := X.w) (A := X.A.in1) (I.ok.hd hc) it a hai its.toArray
    refine wpAny_pyNext_enum_itemD dr he ⟨hit, p'⟩ (i := i) (by
      have := (List.getElem?_eq_some_iff.mp hu).1
      simpa using this) hne (by simp only [List.mem_cons, List.not_mem_nil, or_false, not_or]; exact ⟨hne, hae⟩) fun u' h' tk hx' ho hit' hT hsz hk => ?_
    have hu' : u' = u := by
      have hx' : its.toArray[i]? = some u' := hx'
      rw [List.getElem?_toArray, hu] at hx'
      exact (Option.some.inj hx').symm
    subst hu'
    refine ⟨_, rfl, wpAny_letOwnedTupleGo_enum (s := { s with heap := h', toks := tk + 1 }) ho fun h'' he' sb => ?_⟩
    have hT2 : h''.get? s.heap.objs.size = some { cls := .type "tuple", data := .seq #[.int i tk, u'] } := (sb.2 _ (Nat.ne_of_gt hel)).trans hT
    have new : ObjOk X.prog X.w (upd H s.heap.objs.size (.tup [.int (i : Nat), x])) h'' s.heap.objs.size (.tup [.int (i : Nat), x]) :=
      ⟨by show 2 ≤ sizeLine; decide, [.int i tk, u'], .cons ⟨_, rfl⟩ (.cons ru .nil), ⟨_, hT2, rfl, _, rfl⟩⟩
    have I1 : Inv X pins σ (upd H s.heap.objs.size (.tup [.int (i : Nat), x])) { s with heap := h'', toks := tk + 1 } :=
      I.turnedNew (ch := [e, it]) (fun b ob hb q => (sb.2 b (fun z => hb (by simp [z]))).trans (hk b ob (fun z => hb (by simp [z])) (fun z => hb (by simp [z])) q)) hf (Nat.le_refl _) new
    refine ⟨.ref s.heap.objs.size, _, I1, rfl, ⟨_, x, rfl, I.hok.fresh (Nat.le_refl _), rfl, fun ys hy => by rw [I.tuple_inj hy hq]; exact hx⟩, ⟨⟨u', ?_⟩, hit'.1.at fun o q => (sb.2 it (Ne.symm hne)).trans q, hne⟩, fun b hb => ?_⟩
    · have e1 : ((i + 1 : Nat) : Int) = (i : Int) + 1 := by omega
      rw [e1]
      exact he'
    · have hb' : b < s.heap.objs.size := by
        have e' : b = e ∨ b = it := by simpa using hb
        rcases e' with z | z
        · rw [z]; exact hel
        · rw [z]; exact hil
      rw [upd_ne (Nat.ne_of_lt hb')]
      exact (hf b hb).1
  done := by
    intro X hP hw hK hc i pins s σ H E I hf st hg
    subst hP hw hK
    obtain ⟨⟨old, he⟩, hit, hne⟩ := st
    obtain ⟨xs, hq, hx⟩ := hg
    obtain ⟨its, rv, p, hz⟩ := I.tuple hq
    obtain ⟨f0, f1, f2, f3, f4, f5⟩ := hf it (by simp)
    have hl := rv.length
    have p' : s.heap.IsTuple a its.toArray := p
    have hai : a ≠ it := by
      rintro rfl
      obtain ⟨o1, q1, c1, d1⟩ := id hit
      obtain ⟨o2, q2, c2, _⟩ := id p'
      rw [q1] at q2
      cases q2
      rw [c1] at c2
      exact absurd c2 (by decide)
    have dr := Draws.tuple (prog := X.prog) (w := X.w) (A := X.A.in1) (I.ok.hd hc) it a hai its.toArray
    have hn : its.toArray.size = i := by simp; omega
    refine wpAny_pyNext_enum_endD dr he (by rw [hn]; exact ⟨hit, p'⟩) fun h' eb => ⟨rfl, I.turned (t' := s.toks) (fun b o hb q => eb b o hb q) f0 f1 f3 f4 f5⟩
  self := fun A i s Q E st h => let ⟨⟨_, he⟩, _⟩ := st; wpAny_pyIter_enum he h
theorem walk_enumT {K : PySem.W.Frag} {a : Addr} {xs : List V} : Walk (IteT K a) xs.length (fun H => SqT K H a xs) (YPair (fun i => some (.int (i : Nat))) (fun i => xs[i]?)) := by
  refine ⟨fun i _ hi q => ⟨xs, xs[i], q, by simp [hi]⟩, fun _ q => ⟨xs, q, rfl⟩, fun i H v H' _ q y => ?_⟩
  obtain ⟨T, x, h1, h2, h3, h4⟩ := y
  exact ⟨T, .int (i : Nat), x, h1, h2, h3, rfl, h4 xs q⟩
theorem walk_zipT {K : PySem.W.Frag} {a b : Addr} {xs ys : List V} : Walk (RZ.ItzT K a b) (min xs.length ys.length) (fun H => SqT K H a xs ∧ SqT K H b ys) (YPair (fun i => xs[i]?) (fun i => ys[i]?)) := by
  refine ⟨fun i _ hi q => ?_, fun _ q => ⟨xs, ys, q.1, q.2, by omega⟩, fun i H v H' _ q y => ?_⟩
  · have h1 : i < xs.length := by omega
    have h2 : i < ys.length := by omega
    exact ⟨xs, ys, xs[i], ys[i], q.1, q.2, by simp [h1], by simp [h2]⟩
  · obtain ⟨T, x, z, h1, h2, h3, h4, h5⟩ := y
    exact ⟨T, x, z, h1, h2, h3, h4 xs q.1, h5 ys q.2⟩
/-- enumerate(list or tuple) -/
def iEnumA (K : PySem.W.Frag) (ta : TA) : TI := fun σ H R => ta σ H fun vs H1 => ∃ a xs, vs = [.ref a] ∧ ((SqL K H1 a xs ∧ R (Ite K a) H1) ∨ (SqT K H1 a xs ∧ R (IteT K a) H1))
theorem pi_enumA {X : Cx} {e : Expr} {ta : TA} {p pos tpos : Pos} {elts : List Expr} {kk : Nat} (hg : Gl X "enumerate") (hm : X.mg "enumerate" = none) (ha : PA X [e] ta) (hs : starEach [e] X.env = [(false, eval e X.env)]) :
    PI X (.Tuple elts kk tpos) (.Call (.Name "enumerate" p) [e] [] pos) (iEnumA X.K ta) := by
  refine ⟨fun pins s σ H R I h => ?_⟩
  refine Call_ (ld_blt I hg hm boot_enumerate (PyProof.Rows.callWith_type1 (thn (ha.run pos pins s σ H _ I h) fun us s1 ⟨vs, H1, I1, r1, q1⟩ => ?_) hs rfl))
  obtain ⟨a, xs, ex, q⟩ := q1
  subst ex
  cases r1 with
  | cons r rr =>
    cases rr
    cases r
    have fr : ∀ b, b = s1.heap.objs.size + 1 ∨ b = s1.heap.objs.size → FpOk X pins H1 b := fun b e' => by
      have hle : s1.heap.objs.size ≤ b := by
        rcases e' with z | z
        · rw [z]; exact Nat.le_add_right _ _
        · rw [z]; exact Nat.le_refl _
      exact I1.fpOk hle (I1.hok.fresh hle)
    rcases q with ⟨hq, q⟩ | ⟨hq, q⟩
    · obtain ⟨its, rv, p', hz⟩ := I1.list hq
      refine call_enumerate_list p'.isList fun h' he hit hsz hk => wpAny_pyIter_enum he ?_
      have I2 : Inv X pins σ H1 { s1 with heap := h' } := I1.kept (t' := s1.toks) hk
      exact ⟨s1.heap.objs.size + 1, [s1.heap.objs.size + 1, s1.heap.objs.size], _, _, H1, rfl, I2, turn_enum a (s1.heap.objs.size + 1) s1.heap.objs.size, ⟨⟨.none, he⟩, hit, Nat.succ_ne_self _⟩, fun b hb => fr b (by simpa using hb), q⟩
    · obtain ⟨its, rv, p', hz⟩ := I1.tuple hq
      refine enum_call1 (begins_tuple a its.toArray) (show s1.heap.IsTuple a its.toArray from p') fun h' he ho hsz hk => wpAny_pyIter_enum he ?_
      have I2 : Inv X pins σ H1 { s1 with heap := h' } := I1.kept (t' := s1.toks) hk
      exact ⟨s1.heap.objs.size + 1, [s1.heap.objs.size + 1, s1.heap.objs.size], _, _, H1, rfl, I2, turn_enumT a (s1.heap.objs.size + 1) s1.heap.objs.size, ⟨⟨.none, he⟩, ⟨_, ho, rfl, rfl⟩, Nat.succ_ne_self _⟩, fun b hb => fr b (by simpa using hb), q⟩

/-! ### as data -/
section
variable {X : Cx} {W : WX} {tg e e2 : Expr} {p pos tpos : Pos} {g : Mo (List Hd)}
/-- arguments frozen first -/
def itM (k : List D → Option (List D)) (g : Mo (List Hd)) : Mo (List D) := Mo.bind g fun hs => Mo.bind (freezes hs) fun ds => Mo.lift (k ds)
theorem frzs_after {K : PySem.W.Frag} {k : List D → Option (List D)} {R : RC} {ρ : En} {σ : St} {H : Hp} {r : R3 (List D)} {Q : It → Hp → Prop} {Q2 : List V → Hp → Prop} (hk : R.K = K) (e : EnR R H ρ σ)
    (h : itM k g ρ = some r) (q : AfterI W R ρ σ H Q r)
    (step : ∀ R1 ρ1 H1 xs ds es, R1.K = K → EnR R1 H1 ρ1 σ → DRs R1 H1 ds xs → k ds = some es → (∀ R' J H', Nx R1 ρ1 σ H1 R' ρ1 H' → WD R' H' J es → Q J H') → Q2 xs H1) : tAs K W g σ H Q2 := by
  rcases bind_ok h with ⟨a, ρ1, h1, h2⟩ | ⟨x, ρ1, h1, rfl⟩
  · refine ⟨R, ρ, _, hk, e, h1, fun R1 x H1 n1 r1 => ?_⟩
    rcases bind_ok h2 with ⟨d, ρ2, h3, h4⟩ | ⟨x, ρ2, h3, _⟩
    · obtain ⟨d', ρ2', z, R2, n2, r2⟩ := freezes_ok n1.en r1 h3
      cases z
      unfold Mo.lift at h4
      cases hd : k d with
      | none => simp [hd] at h4
      | some ds =>
        simp [hd] at h4
        subst h4
        have nn := n1.trans n2
        exact step R2 _ H1 x d ds (nn.k.trans hk) n2.en r2 hd fun R' J H' n w => q R' J H' (nn.trans n) w
    · obtain ⟨d', ρ2', z, _⟩ := freezes_ok n1.en r1 h3
      cases z
  · exact ⟨R, ρ, _, hk, e, h1, q⟩
def seqT : D → Option (List D)
  | .lst ds => some ds
  | .tup ds => some ds
  | .frz ds => some ds
  | _ => none
theorem seqT_sq {K : PySem.W.Frag} {R1 : RC} {H1 : Hp} {x : V} {d : D} {ds : List D} (hk : R1.K = K) (r : DR R1 H1 d x) (h : seqT d = some ds) :
    ∃ a xs, x = .ref a ∧ DRs R1 H1 ds xs ∧ ((∀ R' H', Lt R1 H1 R' H' → SqL K H' a xs) ∨ (∀ R' H', Lt R1 H1 R' H' → SqT K H' a xs)) := by
  subst hk
  cases r with
  | non => cases h
  | bl b => cases h
  | int i => cases h
  | str s => cases h
  | lst h1 h2 =>
    cases h
    exact ⟨_, _, rfl, h2, .inl (sq_lst h1)⟩
  | tup h1 h2 =>
    cases h
    exact ⟨_, _, rfl, h2, .inr (sq_tup h1)⟩
  | frz h1 h2 =>
    cases h
    exact ⟨_, _, rfl, h2, .inl (sq_frz h1)⟩
  | dct h1 h2 h3 => cases h
def enumK : List D → Option (List D)
  | [d] => (seqT d).map (enumD 0)
  | _ => none
theorem pi_enumD (hg : Gl X "enumerate") (hm : X.mg "enumerate" = none) {elts : List Expr} {kk : Nat} (ha : PA X [e] (tAs X.K W g)) (hs : starEach [e] X.env = [(false, eval e X.env)]) :
    PI X (.Tuple elts kk tpos) (.Call (.Name "enumerate" p) [e] [] pos) (iD X.K W (itM enumK g)) := by
  refine PI.imp (pi_enumA hg hm ha hs) ?_
  rintro σ H Q ⟨R, ρ, r, hk, en, hf, q⟩
  refine frzs_after hk en hf q fun R1 ρ1 H1 xs ds es hk1 en1 dr hd q1 => ?_
  match ds, dr, hd with
  | [d], .cons rd .nil, hd =>
    have hd : (seqT d).map (enumD 0) = some es := hd
    obtain ⟨ds, h1, rfl⟩ := map_some hd
    obtain ⟨a, ys, rfl, r2, h2⟩ := seqT_sq hk1 rd h1
    refine ⟨a, ys, rfl, ?_⟩
    have l0 := Lt.refl (R := R1) (H := H1) en1.tr
    rcases h2 with h2 | h2
    · exact .inl ⟨h2 _ _ l0, q1 R1 _ H1 (Nx.refl en1) (wd_enum (walk_enum.mono (fun H' ⟨R', l⟩ => h2 R' H' l) fun i H x H' _ _ y => y) r2)⟩
    · exact .inr ⟨h2 _ _ l0, q1 R1 _ H1 (Nx.refl en1) (wd_enum (walk_enumT.mono (fun H' ⟨R', l⟩ => h2 R' H' l) fun i H x H' _ _ y => y) r2)⟩
def zipK : List D → Option (List D)
  | [.tup ds, .tup es] => some (zipD ds es)
  | [.lst ds, .lst es] => some (zipD ds es)
  | _ => none
theorem pi_zipD (hg : Gl X "zip") (hm : X.mg "zip" = none) {elts : List Expr} {kk : Nat} (ha : PA X [e, e2] (tAs X.K W g))
    (hs : starEach [e, e2] X.env = (false, eval e X.env) :: starEach [e2] X.env) (hpl : (backTo pos (starEach [e2] X.env)).any (·.1) = false) :
    PI X (.Tuple elts kk tpos) (.Call (.Name "zip" p) [e, e2] [] pos) (iD X.K W (itM zipK g)) := by
  refine PI.imp (RZ.pi_zipA hg hm ha hs hpl) ?_
  rintro σ H Q ⟨R, ρ, r, hk, en, hf, q⟩
  refine frzs_after hk en hf q fun R1 ρ1 H1 xs ds es hk1 en1 dr hd q1 => ?_
  have l0 := Lt.refl (R := R1) (H := H1) en1.tr
  show ∃ a b xs_1 ys, xs = [V.ref a, V.ref b] ∧ _
  rw [← hk1]
  unfold zipK at hd
  split at hd
  · cases hd
    cases dr with
    | cons r1 rr =>
      cases rr with
      | cons r2 rr =>
        cases rr
        cases r1 with
        | tup h1 h2 =>
          cases r2 with
          | tup h3 h4 =>
            exact ⟨_, _, _, _, rfl, .inr ⟨sq_tup h1 _ _ l0, sq_tup h3 _ _ l0, q1 R1 _ H1 (Nx.refl en1) (wd_zip (walk_zipT.mono (fun H' ⟨R', l⟩ => ⟨sq_tup h1 R' H' l, sq_tup h3 R' H' l⟩) fun i H x H' _ _ y => y) h2 h4)⟩⟩
  · cases hd
    cases dr with
    | cons r1 rr =>
      cases rr with
      | cons r2 rr =>
        cases rr
        cases r1 with
        | lst h1 h2 =>
          cases r2 with
          | lst h3 h4 =>
            exact ⟨_, _, _, _, rfl, .inl ⟨sq_lst h1 _ _ l0, sq_lst h3 _ _ l0, q1 R1 _ H1 (Nx.refl en1) (wd_zip ((walk_zip rfl).mono (fun H' ⟨R', l⟩ => ⟨sq_lst h1 R' H' l, sq_lst h3 R' H' l⟩) fun i H x H' _ _ y => y) h2 h4)⟩⟩
  · cases hd
def smlB (i : Int) : Bool := decide (-(2 ^ 62) ≤ i) && decide (i < 2 ^ 62)
theorem smlB_ok {i : Int} (h : smlB i = true) : -(2 ^ 62) ≤ i ∧ i < 2 ^ 62 := by
  unfold smlB at h
  simp only [Bool.and_eq_true, decide_eq_true_eq] at h
  exact h
def rngK1 : List D → Option (List D)
  | [.int j] => if smlB j then some (rngD 0 j.toNat) else none
  | _ => none
def rngK2 : List D → Option (List D)
  | [.int i, .int j] => if smlB i && smlB j then some (rngD i (j - i).toNat) else none
  | _ => none
theorem pi_rngD1 (hg : Gl X "range") (hm : X.mg "range" = none) (ha : PA X [e] (tAs X.K W g)) (hs : starEach [e] X.env = [(false, eval e X.env)]) :
    PI X tg (.Call (.Name "range" p) [e] [] pos) (iD X.K W (itM rngK1 g)) := by
  refine PI.imp (pi_range1 hg hm ha hs) ?_
  rintro σ H Q ⟨R, ρ, r, hk, en, hf, q⟩
  refine frzs_after hk en hf q fun R1 ρ1 H1 xs ds es hk1 en1 dr hd q1 => ?_
  unfold rngK1 at hd
  split at hd
  · rename_i j
    cases dr with
    | cons r1 rr =>
      cases rr
      cases r1
      by_cases hb : smlB j = true
      · rw [if_pos hb] at hd
        cases hd
        obtain ⟨h1, h2⟩ := smlB_ok hb
        exact ⟨j, rfl, h1, h2, q1 R1 _ H1 (Nx.refl en1) (wd_range 0 _)⟩
      · rw [if_neg hb] at hd
        cases hd
  · cases hd
theorem pi_rngD2 (hg : Gl X "range") (hm : X.mg "range" = none) (ha : PA X [e, e2] (tAs X.K W g)) (hs : starEach [e, e2] X.env = [(false, eval e X.env), (false, eval e2 X.env)]) (hs2 : starEach [e2] X.env = [(false, eval e2 X.env)]) :
    PI X tg (.Call (.Name "range" p) [e, e2] [] pos) (iD X.K W (itM rngK2 g)) := by
  refine PI.imp (pi_range2 hg hm ha hs hs2) ?_
  rintro σ H Q ⟨R, ρ, r, hk, en, hf, q⟩
  refine frzs_after hk en hf q fun R1 ρ1 H1 xs ds es hk1 en1 dr hd q1 => ?_
  unfold rngK2 at hd
  split at hd
  · rename_i i j
    cases dr with
    | cons r1 rr =>
      cases rr with
      | cons r2 rr =>
        cases rr
        cases r1
        cases r2
        by_cases hb : (smlB i && smlB j) = true
        · rw [if_pos hb] at hd
          cases hd
          rw [Bool.and_eq_true] at hb
          obtain ⟨h1, h2⟩ := smlB_ok hb.1
          obtain ⟨h3, h4⟩ := smlB_ok hb.2
          exact ⟨i, j, rfl, ⟨h1, h2, h3, h4⟩, q1 R1 _ H1 (Nx.refl en1) (wd_range i _)⟩
        · rw [if_neg hb] at hd
          cases hd
  · cases hd
end
end Mi
set_option Elab.async false
set_option linter.all false
set_option maxRecDepth 100000
set_option maxHeartbeats 2000000
/-! M10: targets, statements -/
namespace Mi
open PySem L2

def slotOf : Fr → Sl
  | .dat d => .v d
  | .new o => .own false o
section
variable {R R' : RC} {ρ ρ' : En} {σ : St} {H H' : Hp}
end
theorem Ny.ns {R R' : RC} {ρ ρ' : En} {σ : St} {H H' : Hp} (n : Ny R ρ σ H R' ρ' H') : Ns R ρ σ H R' ρ' σ H' :=
  ⟨n.en, n.k, n.m, n.cov, n.h, fun a h => .inl (n.owns h), fun i o h => ⟨n.own i true o h, rfl⟩, fun a ⟨i, o, h1, h2⟩ => .inl (by
    obtain ⟨u, h3⟩ := n.own i false o h1
    exact ⟨i, u, h3, h2⟩), n.al⟩
section
variable {R R' : RC} {ρ ρ' : En} {σ : St} {H H' : Hp}
/-- a result goes into a slot -/
theorem set_ns2 {σ' : St} (n : Ns R ρ σ H R' ρ' σ' H') {fr : Fr} {x : V} (r : FrR R' H' ρ' σ' H fr x) (i : Nat) : Ns R ρ σ H R' (ρ'.set i (slotOf fr)) (σ'.set i (some x)) H' := by
  have own' : ∀ (j : Nat) (l : Bool) (o : Ow) (a : Addr), (ρ'.set i (slotOf fr))[j]? = some (.own l o) → (σ'.set i (some x))[j]? = some (some (.ref a)) → (i = j ∧ fr = .new o ∧ l = false ∧ x = .ref a ∧ H a = none) ∨ (i ≠ j ∧ ρ'[j]? = some (.own l o) ∧ σ'[j]? = some (some (.ref a))) := by
    intro j l o a h1 h2
    rcases set_get h1 with ⟨rfl, e, hl⟩ | ⟨hne, h1⟩
    · have hl' : i < σ'.length := by rw [← n.en.len]; exact hl
      rw [List.getElem?_set_self hl'] at h2
      cases h2
      cases fr with
      | dat d => cases e
      | new o' =>
        cases e
        obtain ⟨p, e2, _, _, h4⟩ := r
        cases e2
        exact .inl ⟨rfl, rfl, rfl, rfl, h4⟩
    · rw [List.getElem?_set_ne hne] at h2
      exact .inr ⟨hne, h1, h2⟩
  refine ⟨⟨by rw [List.length_set, List.length_set]; exact n.en.len, fun j s h => ?_, fun j k l m o u hjk hj hk => ?_, n.en.tr⟩, n.k, n.m, n.cov, n.h, fun a h => ?_, fun j o h => ?_, fun a h => ?_, n.al⟩
  · rcases set_get h with ⟨rfl, e, hl⟩ | ⟨hne, h⟩
    · have hl' : i < σ'.length := by rw [← n.en.len]; exact hl
      refine ⟨some x, List.getElem?_set_self hl', ?_⟩
      subst e
      cases fr with
      | dat d => exact ⟨x, rfl, r⟩
      | new o =>
        obtain ⟨p, rfl, h2, _⟩ := r
        exact ⟨p, rfl, h2⟩
    · obtain ⟨y, h1, h2⟩ := n.en.sl j s h
      exact ⟨y, by rw [List.getElem?_set_ne hne]; exact h1, h2⟩
  · intro heq
    -- both hold addresses
    have ad : ∀ {j : Nat} {l : Bool} {o : Ow}, (ρ'.set i (slotOf fr))[j]? = some (.own l o) → ∃ a, (σ'.set i (some x))[j]? = some (some (.ref a)) := fun {j l o} h => by
      rcases set_get h with ⟨rfl, e, hl⟩ | ⟨hne, h⟩
      · have hl' : i < σ'.length := by rw [← n.en.len]; exact hl
        cases fr with
        | dat d => cases e
        | new o' =>
          obtain ⟨p, rfl, _⟩ := r
          exact ⟨p, List.getElem?_set_self hl'⟩
      · obtain ⟨y, h1, a, rfl, _⟩ := n.en.sl j _ h
        exact ⟨a, by rw [List.getElem?_set_ne hne]; exact h1⟩
    obtain ⟨a, ha⟩ := ad hj
    obtain ⟨b, hb⟩ := ad hk
    have hab : a = b := by
      rw [ha, hb] at heq
      cases heq
      rfl
    subst hab
    rcases own' j l o a hj ha with ⟨rfl, rfl, _, rfl, h1⟩ | ⟨h1, h2, h3⟩
    · rcases own' k m u a hk hb with ⟨rfl, _⟩ | ⟨_, h5, h6⟩
      · exact hjk rfl
      · obtain ⟨p, e, _, no, _⟩ := r
        cases e
        exact no ⟨k, m, u, h5, h6⟩
    · rcases own' k m u a hk hb with ⟨rfl, rfl, _, rfl, _⟩ | ⟨_, h5, h6⟩
      · obtain ⟨p, e, _, no, _⟩ := r
        cases e
        exact no ⟨j, l, o, h2, h3⟩
      · exact n.en.ap j k l m o u hjk h2 h5 (by rw [h3, h6])
  · obtain ⟨j, l, o, h1, h2⟩ := h
    rcases own' j l o a h1 h2 with ⟨_, _, _, _, h3⟩ | ⟨_, h3, h4⟩
    · exact .inr h3
    · exact n.own a ⟨j, l, o, h3, h4⟩
  · rcases set_get h with ⟨rfl, e, hl⟩ | ⟨hne, h⟩
    · cases fr <;> cases e
    · obtain ⟨h1, h2⟩ := n.lent j o h
      exact ⟨h1, by rw [List.getElem?_set_ne hne]; exact h2⟩
  · obtain ⟨j, o, h1, h2⟩ := h
    rcases own' j false o a h1 h2 with ⟨_, _, _, _, h3⟩ | ⟨_, h3, h4⟩
    · exact .inr h3
    · exact n.ownF a ⟨j, o, h3, h4⟩
theorem set_ns (n : Ny R ρ σ H R' ρ' H') {fr : Fr} {x : V} (r : FrR R' H' ρ' σ H fr x) (i : Nat) : Ns R ρ σ H R' (ρ'.set i (slotOf fr)) (σ.set i (some x)) H' := set_ns2 n.ns r i
theorem setv_ns (e : EnR R H ρ σ) {d : D} {x : V} (r : DR R H d x) (i : Nat) : Ns R ρ σ H R (ρ.set i (.v d)) (σ.set i (some x)) H := set_ns (fr := .dat d) (Nx.refl e).ny r i
end
/-- slots that own do so at their places -/
structure Nz (R : RC) (ρ : En) (σ : St) (H : Hp) (R' : RC) (ρ' : En) (σ' : St) (H' : Hp) : Prop where
  en : EnR R' H' ρ' σ'
  k : R'.K = R.K
  m : ∀ a, R'.M a → R.M a ∨ H a = none
  cov : ∀ a, R.M a → R'.M a ∨ Owns ρ σ a
  h : Keep (Owns ρ σ) H H'
  own : ∀ (i : Nat) (l : Bool) (o : Ow), ρ'[i]? = some (.own l o) → (∃ u, ρ[i]? = some (.own l u)) ∧ σ'[i]? = σ[i]?
  al : ∀ a o, H a = some o → ∃ u, H' a = some u
section
variable {R R' R1 R2 : RC} {ρ ρ' ρ1 ρ2 : En} {σ σ' σ1 σ2 : St} {H H' H1 H2 : Hp}
theorem Ny.nz (n : Ny R ρ σ H R' ρ' H') : Nz R ρ σ H R' ρ' σ H' := ⟨n.en, n.k, n.m, n.cov, n.h, fun i l o h => ⟨n.own i l o h, rfl⟩, n.al⟩
theorem Nz.ny (n : Nz R ρ σ H R' ρ' σ H') : Ny R ρ σ H R' ρ' H' := ⟨n.en, n.k, n.m, n.cov, n.h, fun i l o h => (n.own i l o h).1, n.al⟩
theorem Nz.owns (n : Nz R ρ σ H R' ρ' σ' H') {a : Addr} (h : Owns ρ' σ' a) : Owns ρ σ a := by
  obtain ⟨i, l, o, h1, h2⟩ := h
  obtain ⟨⟨u, h3⟩, h4⟩ := n.own i l o h1
  exact ⟨i, l, u, h3, by rw [← h4]; exact h2⟩
theorem Nz.ns (n : Nz R ρ σ H R' ρ' σ' H') : Ns R ρ σ H R' ρ' σ' H' :=
  ⟨n.en, n.k, n.m, n.cov, n.h, fun a h => .inl (n.owns h), fun i o h => n.own i true o h, fun a ⟨i, o, h1, h2⟩ => .inl (by
    obtain ⟨⟨u, h3⟩, h4⟩ := n.own i false o h1
    exact ⟨i, u, h3, by rw [← h4]; exact h2⟩), n.al⟩
theorem Nz.trans (a : Nz R ρ σ H R1 ρ1 σ1 H1) (b : Nz R1 ρ1 σ1 H1 R2 ρ2 σ2 H2) : Nz R ρ σ H R2 ρ2 σ2 H2 where
  en := b.en
  k := b.k.trans a.k
  m := fun x h => by
    rcases b.m x h with q | q
    · exact a.m x q
    · exact .inr (al_none a.al q)
  cov := fun x h => by
    rcases a.cov x h with q | q
    · rcases b.cov x q with q | q
      · exact .inl q
      · exact .inr (a.owns q)
    · exact .inr q
  h := Keep.trans a.h b.h fun x h => .inl (a.owns h)
  own := fun i l o h => by
    obtain ⟨⟨u, h1⟩, h2⟩ := b.own i l o h
    obtain ⟨h3, h4⟩ := a.own i l u h1
    exact ⟨h3, h2.trans h4⟩
  al := fun x o h => by
    obtain ⟨u, h1⟩ := a.al x o h
    exact b.al x u h1
theorem Nz.refl (e : EnR R H ρ σ) : Nz R ρ σ H R ρ σ H := (Nx.refl e).ny.nz
theorem setv_nz (e : EnR R H ρ σ) {d : D} {x : V} (r : DR R H d x) (i : Nat) : Nz R ρ σ H R (ρ.set i (.v d)) (σ.set i (some x)) H :=
  ⟨(setv_ns e r i).en, rfl, fun _ h => .inl h, fun _ h => .inl h, Keep.refl, fun j l o h => by
    rcases set_get h with ⟨_, z, _⟩ | ⟨hne, h⟩
    · cases z
    · exact ⟨⟨o, h⟩, by rw [List.getElem?_set_ne hne]⟩, fun _ o h => ⟨o, h⟩⟩
end

/-! ### targets -/
mutual
inductive Tg where
  | nm (i : Nat) | tup (ts : Tgs)
inductive Tgs where
  | nil | cons (t : Tg) (ts : Tgs)
end
mutual
def setT : Tg → D → En → Option En
  | .nm i, d, ρ => some (ρ.set i (.v d))
  | .tup ts, .tup ds, ρ => setTs ts ds ρ
  | .tup _, _, _ => none
def setTs : Tgs → List D → En → Option En
  | .nil, [], ρ => some ρ
  | .cons t ts, d :: ds, ρ => match setT t d ρ with
    | some ρ1 => setTs ts ds ρ1
    | none => none
  | _, _, _ => none
end
mutual
def Tg.sl : Tg → List Nat
  | .nm i => [i]
  | .tup ts => ts.sl
def Tgs.sl : Tgs → List Nat
  | .nil => []
  | .cons t ts => t.sl ++ ts.sl
end
def Tgs.len : Tgs → Nat
  | .nil => 0
  | .cons _ ts => ts.len + 1
theorem setTs_len : ∀ {ts : Tgs} {ds : List D} {ρ ρ' : En}, setTs ts ds ρ = some ρ' → ds.length = ts.len
  | .nil, [], _, _, _ => rfl
  | .nil, _ :: _, _, _, h => by simp [setTs] at h
  | .cons t ts, [], _, _, h => by simp [setTs] at h
  | .cons t ts, d :: ds, ρ, ρ', h => by
    unfold setTs at h
    cases h1 : setT t d ρ with
    | none => simp [h1] at h
    | some ρ1 =>
      simp [h1] at h
      simp [Tgs.len, setTs_len h]
theorem wipe_set_ne {σ : St} {i : Nat} {y : Option V} : ∀ {vs : List Nat}, wipe (σ.set i y) vs = if i ∈ vs then wipe σ vs else (wipe σ vs).set i y
  | [] => by simp [wipe]
  | v :: vs => by
    have ih := wipe_set_ne (σ := σ) (i := i) (y := y) (vs := vs)
    unfold wipe
    rw [ih]
    by_cases h : i ∈ vs
    · simp [h]
    · simp only [h, if_false, List.mem_cons, or_false]
      by_cases e : i = v
      · subst e
        simp [List.set_set]
      · simp only [e, if_false]
        exact List.set_comm _ _ e
/-- only these slots changed -/
def SetOn (l : List Nat) (σ σ' : St) : Prop := ∀ vs, (∀ i ∈ l, i ∈ vs) → wipe σ' vs = wipe σ vs
theorem SetOn.one {σ : St} {i : Nat} {y : Option V} : SetOn [i] σ (σ.set i y) := fun vs h => by
  rw [wipe_set_ne, if_pos (h i (by simp))]
theorem SetOn.trans {l m : List Nat} {σ σ1 σ2 : St} (a : SetOn l σ σ1) (b : SetOn m σ1 σ2) : SetOn (l ++ m) σ σ2 := fun vs h => by
  rw [b vs fun i hi => h i (List.mem_append_right _ hi), a vs fun i hi => h i (List.mem_append_left _ hi)]
def gT (K : PySem.W.Frag) (t : Tg) : TG := fun x σ H Q => ∃ R ρ d ρ', R.K = K ∧ EnR R H ρ σ ∧ DR R H d x ∧ setT t d ρ = some ρ' ∧ ∀ σ', Nz R ρ σ H R ρ' σ' H → SetOn t.sl σ σ' → Q σ' H
def gTs (K : PySem.W.Frag) (t : Tgs) : TGs := fun xs σ H Q => ∃ R ρ d ρ', R.K = K ∧ EnR R H ρ σ ∧ DRs R H d xs ∧ setTs t d ρ = some ρ' ∧ ∀ σ', Nz R ρ σ H R ρ' σ' H → SetOn t.sl σ σ' → Q σ' H
theorem PG.imp {X : Cx} {e : Expr} {t t' : TG} (h : PG X e t) (i : ∀ x σ H Q, t' x σ H Q → t x σ H Q) : PG X e t' := ⟨fun pins s σ H v u Q I r q => h.run pins s σ H v u Q I r (i v σ H Q q)⟩
theorem PGs.imp {X : Cx} {e : List Expr} {t t' : TGs} (h : PGs X e t) (i : ∀ x σ H Q, t' x σ H Q → t x σ H Q) : PGs X e t' := ⟨fun pins s σ H v u Q I r q => h.run pins s σ H v u Q I r (i v σ H Q q)⟩
section
variable {X : Cx} {pos : Pos}
theorem pg_nm {i : Nat} {x : Str} (hN : X.N.Nodup) (hi : X.N[i]? = some x) (hx : Loc X.env.scope x) (hf : X.fn x = true ∨ X.env.scope.names.lookup x = some .local) : PG X (.Name x pos) (gT X.K (.nm i)) := by
  refine PG.imp (pg_name hN hi hx hf) ?_
  rintro x σ H Q ⟨R, ρ, d, ρ', hk, e, r, h, q⟩
  cases h
  exact q _ (setv_nz e r i) SetOn.one
theorem pgs_no : PGs X [] (gTs X.K .nil) := by
  refine PGs.imp pgs_nil ?_
  rintro xs σ H Q ⟨R, ρ, d, ρ', hk, e, r, h, q⟩
  cases r with
  | nil =>
    cases h
    exact ⟨rfl, q _ (Nz.refl e) fun _ _ => rfl⟩
  | cons _ _ => cases h
theorem pgs_co {e : Expr} {es : List Expr} {t : Tg} {ts : Tgs} (h1 : PG X e (gT X.K t)) (h2 : PGs X es (gTs X.K ts)) (hs : (assignEach (e :: es) X.env).map (·.2) = assign e X.env :: (assignEach es X.env).map (·.2)) : PGs X (e :: es) (gTs X.K (.cons t ts)) := by
  refine PGs.imp (pgs_cons h1 h2 hs) ?_
  rintro xs σ H Q ⟨R, ρ, ds, ρ', hk, e, r, h, q⟩
  cases r with
  | nil => cases h
  | cons r rr =>
    rename_i d x ds xs
    unfold setTs at h
    cases h3 : setT t d ρ with
    | none => simp [h3] at h
    | some ρ1 =>
      simp [h3] at h
      refine ⟨x, xs, rfl, R, ρ, d, ρ1, hk, e, r, h3, fun σ1 n1 s1 => ⟨R, ρ1, ds, ρ', hk, n1.en, rr, h, fun σ2 n2 s2 => ?_⟩⟩
      exact q σ2 (n1.trans n2) (s1.trans s2)
theorem pg_tp {es : List Expr} {k : Nat} {ts : Tgs} (hc : X.calm = true) (h : PGs X es (gTs X.K ts)) (hn : (assignEach es X.env).length = ts.len) (hst : (assignEach es X.env).findIdx? (·.1) = none) : PG X (.Tuple es k pos) (gT X.K (.tup ts)) := by
  refine PG.imp (pg_tup hc h hn hst) ?_
  rintro x σ H Q ⟨R, ρ, d, ρ', hk, e, r, h, q⟩
  cases r with
  | tup h1 h2 =>
    refine ⟨_, _, rfl, by rw [← hk]; exact h1.sq, by rw [← h2.len]; exact setTs_len h, R, ρ, _, ρ', hk, e, h2, h, q⟩
  | _ => simp [setT] at h
end

/-! ### statements -/
def nxM : Ms := fun ρ => some (.ok .nx ρ)
def seqS (f g : Ms) : Ms := fun ρ => match f ρ with
  | some (.ok .nx ρ1) => g ρ1
  | r => r
def asgM (f : Mo Fr) (i : Nat) : Ms := Mo.bind f fun fr ρ => some (.ok .nx (ρ.set i (slotOf fr)))
def asgT (f : Mo Hd) (t : Tg) : Ms := Mo.bind f fun h => Mo.bind (freeze h) fun d ρ => (setT t d ρ).map fun ρ' => .ok .nx ρ'
def retM (f : Mo Fr) : Ms := Mo.bind f fun fr ρ => some (.ok (.rt fr) ρ)
def dropM (f : Mo Hd) : Ms := Mo.bind f fun _ ρ => some (.ok .nx ρ)
def ifM (c : Mo Bool) (f g : Ms) : Ms := Mo.bind c fun b => match b with
  | true => f
  | false => g
def forL (t : Tg) (body : Ms) : List D → Ms
  | [] => nxM
  | d :: ds => fun ρ => match setT t d ρ with
    | none => none
    | some ρ1 => match body ρ1 with
      | some (.ok .nx ρ2) => forL t body ds ρ2
      | some (.ok .ct ρ2) => forL t body ds ρ2
      | some (.ok .bk ρ2) => some (.ok .nx ρ2)
      | r => r
def forM (it : Mo (List D)) (t : Tg) (body : Ms) : Ms := Mo.bind it fun ds => forL t body ds
section
variable {K : PySem.W.Frag} {W : WX} {D : Ends} {σ : St} {H : Hp}
theorem nx_ok (h : tS K W nxM D σ H) : tNext D σ H := by
  obtain ⟨R, ρ, r, hk, e, hf, q⟩ := h
  cases hf
  exact q R σ H (Ns.refl e)
theorem seq_ok {f g : Ms} (h : tS K W (seqS f g) D σ H) : tSeq (tS K W f) (tS K W g) D σ H := by
  obtain ⟨R, ρ, r, hk, e, hf, q⟩ := h
  unfold seqS at hf
  cases h1 : f ρ with
  | none => simp [h1] at hf
  | some r1 =>
    refine ⟨R, ρ, r1, hk, e, h1, ?_⟩
    cases r1 with
    | ex x ρ1 =>
      simp [h1] at hf
      subst hf
      exact q
    | ok fl ρ1 =>
      cases fl with
      | nx =>
        simp [h1] at hf
        intro R' σ' H' n
        exact ⟨R', ρ1, r, n.k.trans hk, n.en, hf, q.ns e n⟩
      | bk =>
        simp [h1] at hf
        subst hf
        exact q
      | ct =>
        simp [h1] at hf
        subst hf
        exact q
      | rt d =>
        simp [h1] at hf
        subst hf
        exact q
theorem asgM_ok {f : Mo Fr} {i : Nat} (h : tS K W (asgM f i) D σ H) : tN K W f σ H fun x H1 => D.nx (σ.set i (some x)) H1 := by
  obtain ⟨R, ρ, r, hk, e, hf, q⟩ := h
  rcases bind_ok hf with ⟨a, ρ1, h1, h2⟩ | ⟨x, ρ1, h1, rfl⟩
  · cases h2
    exact ⟨R, ρ, _, hk, e, h1, fun R' x H' n r => q R' _ H' (set_ns n r i)⟩
  · exact ⟨R, ρ, _, hk, e, h1, fun R' H' cls d n er => q R' σ H' cls d n.ns er⟩
theorem asgT_ok {f : Mo Hd} {t : Tg} (h : tS K W (asgT f t) D σ H) : tA K W f σ H fun x H1 => gT K t x σ H1 D.nx := by
  obtain ⟨R, ρ, r, hk, e, hf, q⟩ := h
  rcases bind_ok hf with ⟨a, ρ1, h1, h2⟩ | ⟨x, ρ1, h1, rfl⟩
  · refine ⟨R, ρ, _, hk, e, h1, fun R1 x H1 n1 r1 => ?_⟩
    rcases bind_ok h2 with ⟨d, ρ2, h3, h4⟩ | ⟨x, ρ2, h3, _⟩
    · obtain ⟨R2, n2, r2⟩ := freeze_ok n1.en r1 h3
      obtain ⟨ρ3, h5, h6⟩ := map_some h4
      subst h6
      exact ⟨R2, ρ2, d, ρ3, (n1.trans n2).k.trans hk, n2.en, r2, h5, fun σ' n s => q R2 σ' H1 (Ns.trans e (n1.trans n2).ns n.ns)⟩
    · exact (freeze_no h3).elim
  · exact ⟨R, ρ, _, hk, e, h1, fun R' H' cls d n er => q R' σ H' cls d n.ns er⟩
theorem retM_ok {f : Mo Fr} (h : tS K W (retM f) D σ H) : tN K W f σ H D.rt := by
  obtain ⟨R, ρ, r, hk, e, hf, q⟩ := h
  rcases bind_ok hf with ⟨a, ρ1, h1, h2⟩ | ⟨x, ρ1, h1, rfl⟩
  · cases h2
    refine ⟨R, ρ, _, hk, e, h1, fun R' x H' n r => q R' σ H' x n.ns ?_⟩
    cases a with
    | dat d => exact r
    | new o =>
      obtain ⟨p, h2, h3, h4, h5⟩ := r
      exact ⟨p, h2, h3, .inl h5⟩
  · exact ⟨R, ρ, _, hk, e, h1, fun R' H' cls d n er => q R' σ H' cls d n.ns er⟩
/-- a container of one's own slot is handed out whole -/
def retV (i : Nat) : Ms := fun ρ => match ρ[i]? with
  | some (.v d) => some (.ok (.rt (.dat d)) ρ)
  | some (.own false o) => some (.ok (.rt (.new o)) ρ)
  | _ => none
theorem retV_ok {i : Nat} (h : tS K W (retV i) D σ H) : tVar i σ H D.rt := by
  obtain ⟨R, ρ, r, hk, e, hf, q⟩ := h
  unfold retV at hf
  cases hs : ρ[i]? with
  | none => simp [hs] at hf
  | some s =>
    obtain ⟨y, h1, h2⟩ := e.sl i s hs
    cases s with
    | no => simp [hs] at hf
    | v d =>
      simp [hs] at hf
      subst hf
      obtain ⟨x, rfl, dr⟩ := h2
      exact ⟨x, h1, q R σ H x (Ns.refl e) dr⟩
    | own l o =>
      cases l with
      | true => simp [hs] at hf
      | false =>
        simp [hs] at hf
        subst hf
        obtain ⟨a, rfl, ow⟩ := h2
        exact ⟨_, h1, q R σ H _ (Ns.refl e) ⟨a, rfl, ow, .inr ⟨i, o, hs, h1⟩⟩⟩
theorem dropM_ok {f : Mo Hd} (h : tS K W (dropM f) D σ H) : tA K W f σ H fun _ H1 => D.nx σ H1 := by
  obtain ⟨R, ρ, r, hk, e, hf, q⟩ := h
  rcases bind_ok hf with ⟨a, ρ1, h1, h2⟩ | ⟨x, ρ1, h1, rfl⟩
  · cases h2
    exact ⟨R, ρ, _, hk, e, h1, fun R' x H' n r => q R' σ H' n.ns⟩
  · exact ⟨R, ρ, _, hk, e, h1, fun R' H' cls d n er => q R' σ H' cls d n.ns er⟩
theorem ifM_ok {c : Mo Bool} {f g : Ms} (h : tS K W (ifM c f g) D σ H) : tIfS (tB K W c) (tS K W f) (tS K W g) D σ H := by
  obtain ⟨R, ρ, r, hk, e, hf, q⟩ := h
  rcases bind_ok hf with ⟨a, ρ1, h1, h2⟩ | ⟨x, ρ1, h1, rfl⟩
  · refine ⟨R, ρ, _, hk, e, h1, fun R' x H' n hx => ?_⟩
    subst hx
    cases a with
    | true => exact ⟨R', ρ1, r, n.k.trans hk, n.en, h2, q.ns e n.ns⟩
    | false => exact ⟨R', ρ1, r, n.k.trans hk, n.en, h2, q.ns e n.ns⟩
  · exact ⟨R, ρ, _, hk, e, h1, fun R' H' cls d n er => q R' σ H' cls d n.ns er⟩
theorem forM_ok {it : Mo (List Mi.D)} {t : Tg} {f : Ms} (h : tS K W (forM it t f) D σ H) : tFor (iD K W it) (gT K t) (tS K W f) D σ H := by
  obtain ⟨R, ρ, r, hk, e, hf, q⟩ := h
  rcases bind_ok hf with ⟨ds, ρ1, h1, h2⟩ | ⟨x, ρ1, h1, rfl⟩
  · refine ⟨R, ρ, _, hk, e, h1, fun R1 J H1 n1 w => ?_⟩
    obtain ⟨G, Y, wk, hG, hY⟩ := w
    have q1 := q.ns e n1.ns
    refine for_it wk (Pv := fun i σ' H' => ∃ R' ρ', Ns R1 ρ1 σ H1 R' ρ' σ' H' ∧ forL t f (ds.drop i) ρ' = some r) ⟨R1, ρ1, Ns.refl n1.en, h2⟩ (fun i σ' H' hi ⟨R', ρ', n, _⟩ => hG R' H' (n.lt n1.en)) (fun i x σ' H' H2 hi ⟨R', ρ', n, hr⟩ y => ?_) fun σ' H' ⟨R', ρ', n, hr⟩ => ?_
    · obtain ⟨ex, d, hd, dr⟩ := hY i R' H' x H2 hi (n.lt n1.en) y
      have hcut : ds.drop i = d :: ds.drop (i + 1) := by
        obtain ⟨hl, e1⟩ := List.getElem?_eq_some_iff.mp hd
        rw [List.drop_eq_getElem_cons hl, e1]
      rw [hcut] at hr
      unfold forL at hr
      have n2 : Ns R1 ρ1 σ H1 R' ρ' σ' H2 := Ns.trans n1.en n (Nx.ex n.en ex).ns
      cases h3 : setT t d ρ' with
      | none => simp [h3] at hr
      | some ρ2 =>
        simp only [h3] at hr
        refine ⟨R', ρ', d, ρ2, (n2.k.trans n1.k).trans hk, n2.en, dr, h3, fun σ2 m s => ?_⟩
        have n3 := Ns.trans n1.en n2 m.ns
        cases h4 : f ρ2 with
        | none => simp [h4] at hr
        | some r4 =>
          refine ⟨R', ρ2, r4, (n3.k.trans n1.k).trans hk, n3.en, h4, ?_⟩
          have qq := q1.ns n1.en n3
          cases r4 with
          | ex x ρ4 =>
            simp [h4] at hr
            subst hr
            exact qq
          | ok fl ρ4 =>
            cases fl with
            | nx =>
              simp [h4] at hr
              intro R4 σ4 H4 n4
              exact ⟨R4, ρ4, Ns.trans n1.en n3 n4, hr⟩
            | ct =>
              simp [h4] at hr
              intro R4 σ4 H4 n4
              exact ⟨R4, ρ4, Ns.trans n1.en n3 n4, hr⟩
            | bk =>
              simp [h4] at hr
              subst hr
              exact qq
            | rt d =>
              simp [h4] at hr
              subst hr
              exact qq
    · rw [List.drop_length] at hr
      cases hr
      exact q1 R' σ' H' n
  · exact ⟨R, ρ, _, hk, e, h1, fun R' H' cls d n er => q R' σ H' cls d n.ns er⟩
end
end Mi
set_option Elab.async false
set_option linter.all false
set_option maxRecDepth 100000
set_option maxHeartbeats 2000000
/-! M11: tests, chains, slices, texts; containers made anew -/
namespace Mi
open PySem L2

section
variable {K : PySem.W.Frag} {W : WX} {σ : St} {H : Hp}
/-- f, then k -/
theorem bindA {α β γ : Type} {rel : RC → Hp → γ → β → Prop} {f : Mo Hd} {k : Hd → Mo γ} {Q : β → Hp → Prop} {Q2 : VK} (h : ∃ R ρ r, R.K = K ∧ EnR R H ρ σ ∧ Mo.bind f k ρ = some r ∧ After W R ρ σ H rel Q r)
    (step : ∀ R1 ρ1 x H1 a r, R1.K = K → EnR R1 H1 ρ1 σ → HdR R1 H1 σ a x → k a ρ1 = some r → After W R1 ρ1 σ H1 rel Q r → Q2 x H1) : tA K W f σ H Q2 := by
  obtain ⟨R, ρ, r, hk, e, hf, q⟩ := h
  rcases bind_ok hf with ⟨a, ρ1, h1, h2⟩ | ⟨x, ρ1, h1, rfl⟩
  · exact ⟨R, ρ, _, hk, e, h1, fun R1 x H1 n1 r1 => step R1 ρ1 x H1 a r (n1.k.trans hk) n1.en r1 h2 (q.nx n1)⟩
  · exact ⟨R, ρ, _, hk, e, h1, q⟩
theorem bindX {β γ : Type} {rel : RC → Hp → γ → β → Prop} {f : Mo Hd} {k : Hd → Mo γ} {Q : β → Hp → Prop} {Q2 : VK} {R : RC} {ρ : En} {r : R3 γ} (hk : R.K = K) (e : EnR R H ρ σ) (hf : Mo.bind f k ρ = some r) (q : After W R ρ σ H rel Q r)
    (step : ∀ R1 ρ1 x H1 a, Nx R ρ σ H R1 ρ1 H1 → HdR R1 H1 σ a x → k a ρ1 = some r → After W R1 ρ1 σ H1 rel Q r → Q2 x H1) : tA K W f σ H Q2 := by
  rcases bind_ok hf with ⟨a, ρ1, h1, h2⟩ | ⟨x, ρ1, h1, rfl⟩
  · exact ⟨R, ρ, _, hk, e, h1, fun R1 x H1 n1 r1 => step R1 ρ1 x H1 a n1 r1 h2 (q.nx n1)⟩
  · exact ⟨R, ρ, _, hk, e, h1, q⟩
theorem bindB {β γ : Type} {rel : RC → Hp → γ → β → Prop} {f : Mo Bool} {k : Bool → Mo γ} {Q : β → Hp → Prop} {Q2 : Bool → Hp → Prop} (h : ∃ R ρ r, R.K = K ∧ EnR R H ρ σ ∧ Mo.bind f k ρ = some r ∧ After W R ρ σ H rel Q r)
    (step : ∀ R1 ρ1 a H1 r, R1.K = K → EnR R1 H1 ρ1 σ → k a ρ1 = some r → After W R1 ρ1 σ H1 rel Q r → Q2 a H1) : tB K W f σ H Q2 := by
  obtain ⟨R, ρ, r, hk, e, hf, q⟩ := h
  rcases bind_ok hf with ⟨a, ρ1, h1, h2⟩ | ⟨x, ρ1, h1, rfl⟩
  · exact ⟨R, ρ, _, hk, e, h1, fun R1 x H1 n1 r1 => by
      subst r1
      exact step R1 ρ1 a H1 r (n1.k.trans hk) n1.en h2 (q.nx n1)⟩
  · exact ⟨R, ρ, _, hk, e, h1, q⟩
theorem deref_ok {α : Type} {a : Hd} {k : D → Mo α} {ρ : En} {r : R3 α} (h : Mo.bind (deref a) k ρ = some r) : ∃ d, deref1 ρ a = some d ∧ k d ρ = some r := by
  unfold Mo.bind deref at h
  cases h1 : deref1 ρ a with
  | none => simp [h1] at h
  | some d => exact ⟨d, rfl, by simpa [h1] using h⟩
theorem lift_ok {α β : Type} {o : Option α} {k : α → Mo β} {ρ : En} {r : R3 β} (h : Mo.bind (Mo.lift o) k ρ = some r) : ∃ a, o = some a ∧ k a ρ = some r := by
  unfold Mo.bind Mo.lift at h
  cases o with
  | none => simp at h
  | some a => exact ⟨a, rfl, by simpa using h⟩
theorem lift_eq {α : Type} {o : Option α} {ρ : En} {r : R3 α} (h : Mo.lift o ρ = some r) : ∃ a, o = some a ∧ r = .ok a ρ := by
  unfold Mo.lift at h
  cases o with
  | none => cases h
  | some a =>
    cases h
    exact ⟨a, rfl, rfl⟩

/-! ### truth -/
def truD : D → Option Bool
  | .non => some false
  | .bl b => some b
  | .int i => some (i != 0)
  | .str s => if s.length ≤ sizeLine then some (!s.isEmpty) else none
  | .lst xs => some (!xs.isEmpty)
  | .tup xs => some (!xs.isEmpty)
  | .frz xs => some (!xs.isEmpty)
  | .dct xs => some (!xs.isEmpty)
  | .ref _ => none
theorem DRs.emp {R : RC} {H : Hp} {ds : List D} {xs : List V} (r : DRs R H ds xs) : (!ds.isEmpty) = !xs.isEmpty := by cases r <;> rfl
theorem truV_ok {R : RC} {x : V} {d : D} {b : Bool} (a : AR R H d x) (h : truD d = some b) : TruV R.K x H b := by
  cases d with
  | non =>
    cases h
    rw [a.non]
    rfl
  | bl c =>
    cases h
    rw [a.bl]
    rfl
  | int i =>
    cases h
    rw [a.int]
    exact rfl
  | str s =>
    have h : (if s.length ≤ sizeLine then some (!s.isEmpty) else none) = some b := h
    split at h
    · rename_i hz
      cases h
      rw [a.str]
      refine ⟨by rw [len_str]; exact hz, ?_⟩
      rw [len_str]
      cases s with
      | nil => rfl
      | cons c s =>
        show true = _
        symm
        rw [bne_iff_ne]
        simp only [List.length_cons]
        omega
    · cases h
  | lst xs =>
    cases h
    obtain ⟨p, ys, rfl, h1, h2⟩ := a.lst
    exact .inl ⟨ys, .inl (.inl h1), h2.emp⟩
  | tup xs =>
    cases h
    obtain ⟨p, ys, rfl, h1, h2⟩ := a.tup
    exact .inr (.inl ⟨ys, h1.sq, h2.emp⟩)
  | frz xs =>
    cases h
    obtain ⟨p, ys, rfl, h1, h2⟩ := a.frz
    exact .inl ⟨ys, h1.sq, h2.emp⟩
  | dct xs =>
    cases h
    obtain ⟨p, ys, rfl, h1, h2, _⟩ := a.dct
    refine .inr (.inr ⟨ys, h1, ?_⟩)
    have := h2.emp
    cases xs <;> cases ys <;> first | rfl | (simp at this)
  | ref l => cases h
def valB (f : Mo Hd) : Mo Bool := Mo.bind f fun h => Mo.bind (deref h) fun d => Mo.lift (truD d)
theorem valB_ok {f : Mo Hd} {Q : Bool → Hp → Prop} (h : tB K W (valB f) σ H Q) : tA K W f σ H fun x H' => ∃ k, TruV K x H' k ∧ Q k H' := by
  refine bindA (α := Unit) h fun R1 ρ1 x H1 a r hk en hr h2 q => ?_
  obtain ⟨d, h3, h4⟩ := deref_ok h2
  obtain ⟨b, h5, rfl⟩ := lift_eq h4
  exact ⟨b, by rw [← hk]; exact truV_ok (deref1_ok en hr h3) h5, q R1 b H1 (Nx.refl en) rfl⟩
def andM (f g : Mo Hd) : Mo Hd := Mo.bind f fun h => Mo.bind (deref h) fun d => Mo.bind (Mo.lift (truD d)) fun b => match b with
  | true => g
  | false => Mo.pure h
def orM (f g : Mo Hd) : Mo Hd := Mo.bind f fun h => Mo.bind (deref h) fun d => Mo.bind (Mo.lift (truD d)) fun b => match b with
  | true => Mo.pure h
  | false => g
theorem andM_ok {f g : Mo Hd} {Q : VK} (h : tA K W (andM f g) σ H Q) : tAndT K (tA K W f) (tA K W g) σ H Q := by
  refine bindA (α := Unit) h fun R1 ρ1 x H1 a r hk en hr h2 q => ?_
  obtain ⟨d, h3, h4⟩ := deref_ok h2
  obtain ⟨b, h5, h6⟩ := lift_ok h4
  refine ⟨b, by rw [← hk]; exact truV_ok (deref1_ok en hr h3) h5, ?_⟩
  cases b with
  | true => exact ⟨R1, ρ1, r, hk, en, h6, q⟩
  | false =>
    cases h6
    exact q R1 x H1 (Nx.refl en) hr
theorem orM_ok {f g : Mo Hd} {Q : VK} (h : tA K W (orM f g) σ H Q) : tOrT K (tA K W f) (tA K W g) σ H Q := by
  refine bindA (α := Unit) h fun R1 ρ1 x H1 a r hk en hr h2 q => ?_
  obtain ⟨d, h3, h4⟩ := deref_ok h2
  obtain ⟨b, h5, h6⟩ := lift_ok h4
  refine ⟨b, by rw [← hk]; exact truV_ok (deref1_ok en hr h3) h5, ?_⟩
  cases b with
  | false => exact ⟨R1, ρ1, r, hk, en, h6, q⟩
  | true =>
    cases h6
    exact q R1 x H1 (Nx.refl en) hr
def notM (f : Mo Hd) : Mo Hd := Mo.bind (valB f) fun b => Mo.pure (.val (.bl (!b)))
theorem notM_ok {f : Mo Hd} {Q : VK} (h : tA K W (notM f) σ H Q) : tNotT K (tA K W f) σ H Q := by
  have h2 : tB K W (valB f) σ H (fun b H1 => Q (.bl (!b)) H1) := bindB h fun R1 ρ1 a H1 r hk en h2 q => by
    cases h2
    exact q R1 _ H1 (Nx.refl en) (.bl _)
  exact valB_ok h2
def andB (f g : Mo Bool) : Mo Bool := Mo.bind f fun b => match b with
  | true => g
  | false => Mo.pure false
def orB (f g : Mo Bool) : Mo Bool := Mo.bind f fun b => match b with
  | true => Mo.pure true
  | false => g
theorem andB_ok {f g : Mo Bool} {Q : Bool → Hp → Prop} (h : tB K W (andB f g) σ H Q) : tAnd (tB K W f) (tB K W g) σ H Q := by
  refine bindB h fun R1 ρ1 a H1 r hk en h2 q => ?_
  cases a with
  | true => exact ⟨R1, ρ1, r, hk, en, h2, q⟩
  | false =>
    cases h2
    exact q R1 _ H1 (Nx.refl en) rfl
theorem orB_ok {f g : Mo Bool} {Q : Bool → Hp → Prop} (h : tB K W (orB f g) σ H Q) : tOr (tB K W f) (tB K W g) σ H Q := by
  refine bindB h fun R1 ρ1 a H1 r hk en h2 q => ?_
  cases a with
  | false => exact ⟨R1, ρ1, r, hk, en, h2, q⟩
  | true =>
    cases h2
    exact q R1 _ H1 (Nx.refl en) rfl
def notB (f : Mo Bool) : Mo Bool := Mo.bind f fun b => Mo.pure (!b)
theorem notB_ok {f : Mo Bool} {Q : Bool → Hp → Prop} (h : tB K W (notB f) σ H Q) : tNot (tB K W f) σ H Q :=
  bindB h fun R1 ρ1 a H1 r hk en h2 q => by
    cases h2
    exact q R1 _ H1 (Nx.refl en) rfl
def iteM (c : Mo Bool) (f g : Mo Hd) : Mo Hd := Mo.bind c fun b => match b with
  | true => f
  | false => g
theorem iteM_ok {c : Mo Bool} {f g : Mo Hd} {Q : VK} (h : tA K W (iteM c f g) σ H Q) : tIf (tB K W c) (tA K W f) (tA K W g) σ H Q := by
  refine bindB h fun R1 ρ1 a H1 r hk en h2 q => ?_
  cases a with
  | true => exact ⟨R1, ρ1, r, hk, en, h2, q⟩
  | false => exact ⟨R1, ρ1, r, hk, en, h2, q⟩
/-- a bool as a test -/
def tstB (f : Mo Hd) : Mo Bool := Mo.bind f fun h => match h with
  | .val (.bl b) => Mo.pure b
  | _ => Mo.lift none
theorem tstB_ok {f : Mo Hd} {Q : Bool → Hp → Prop} (h : tB K W (tstB f) σ H Q) : tA K W f σ H fun x H' => ∃ k, x = .bl k ∧ Q k H' := by
  refine bindA (α := Unit) h fun R1 ρ1 x H1 a r hk en hr h2 q => ?_
  cases a with
  | slot i => cases h2
  | val d =>
    cases d with
    | bl b =>
      cases h2
      cases hr
      exact ⟨b, rfl, q R1 b H1 (Nx.refl en) rfl⟩
    | _ => cases h2

/-! ### operations -/
def opM (op : D → D → Option D) (f g : Mo Hd) : Mo Hd := Mo.bind f fun a => Mo.bind g fun b => Mo.bind (deref a) fun x => Mo.bind (deref b) fun y => Mo.bind (Mo.lift (op x y)) fun d => Mo.pure (.val d)
def negD : D → Option D
  | .int i => some (.int (-i))
  | _ => none
def unM (op : D → Option D) (f : Mo Hd) : Mo Hd := Mo.bind f fun a => Mo.bind (deref a) fun x => Mo.bind (Mo.lift (op x)) fun d => Mo.pure (.val d)
theorem negM_ok {f : Mo Hd} {Q : VK} (h : tA K W (unM negD f) σ H Q) : tUn (rU fun i => .int (-i)) (tA K W f) σ H Q := by
  refine bindA (α := Unit) h fun R1 ρ1 x H1 a r hk en hr h2 q => ?_
  obtain ⟨d, h3, h4⟩ := deref_ok h2
  obtain ⟨b, h5, h6⟩ := lift_ok h4
  cases h6
  cases d with
  | int i =>
    cases h5
    exact ⟨i, (deref1_ok en hr h3).int, q R1 _ H1 (Nx.refl en) (.int _)⟩
  | _ => cases h5
/-- a op b op' c -/
def chainM (op op' : D → D → Option D) (f g e : Mo Hd) : Mo Hd := Mo.bind f fun a => Mo.bind g fun b => Mo.bind (deref a) fun x => Mo.bind (deref b) fun y => Mo.bind (Mo.lift (op x y)) fun z => match z with
  | .bl true => Mo.bind e fun c => Mo.bind (deref b) fun y => Mo.bind (deref c) fun w => Mo.bind (Mo.lift (op' y w)) fun d => Mo.pure (.val d)
  | .bl false => Mo.pure (.val (.bl false))
  | _ => Mo.lift none
theorem chainM_ok {r r' : R2} {op op' : D → D → Option D} (ho : OpS K r op) (ho' : OpS K r' op') {f g e : Mo Hd} {Q : VK} (h : tA K W (chainM op op' f g e) σ H Q) : tChain r r' (tA K W f) (tA K W g) (tA K W e) σ H Q := by
  refine bindA (α := Unit) h fun R1 ρ1 x H1 a rr hk en hr h2 q => ?_
  refine bindX hk en h2 q fun R2 ρ2 y H2 b n2 hr2 h3 q2 => ?_
  obtain ⟨da, h4, h5⟩ := deref_ok h3
  obtain ⟨db, h6, h7⟩ := deref_ok h5
  obtain ⟨z, h8, h9⟩ := lift_ok h7
  have hk2 := n2.k.trans hk
  refine ho R2 H2 x y da db z _ hk2 n2.en.tr (deref1_ok n2.en (hr.to (n2.to en)) h4) (deref1_ok n2.en hr2 h6) h8 fun zv H3 ex dr => ?_
  have n3 := Nx.ex n2.en ex
  cases dr with
  | bl k =>
    refine ⟨k, rfl, ?_⟩
    cases k with
    | false =>
      cases h9
      exact q2 R2 _ H3 n3 (.bl _)
    | true =>
      refine bindX hk2 n3.en h9 (q2.nx n3) fun R4 ρ4 w H4 c n4 hr4 h10 q4 => ?_
      obtain ⟨db', h11, h12⟩ := deref_ok h10
      obtain ⟨dc, h13, h14⟩ := deref_ok h12
      obtain ⟨z', h15, h16⟩ := lift_ok h14
      cases h16
      refine ho' R4 H4 y w db' dc z' _ (n4.k.trans hk2) n4.en.tr (deref1_ok n4.en ((hr2.to (n3.to n2.en)).to (n4.to n3.en)) h11) (deref1_ok n4.en hr4 h13) h15 fun v H5 ex5 dr5 => ?_
      exact q4 R4 v H5 (Nx.ex n4.en ex5) dr5
  | _ => cases h9

/-! ### slices -/
def prtM : Option (Mo Hd) → Mo (Option Int)
  | none => Mo.pure none
  | some f => Mo.bind f fun h => Mo.bind (deref h) fun d => match d with
    | .int i => Mo.pure (some i)
    | _ => Mo.lift none
def sliM (f : Mo Hd) (lo hi : Option (Mo Hd)) : Mo Hd := Mo.bind f fun a => Mo.bind (prtM lo) fun l => Mo.bind (prtM hi) fun u => Mo.bind (deref a) fun x => Mo.bind (Mo.lift (sliD x l u)) fun d => Mo.pure (.val d)
def tPr (K : PySem.W.Frag) (W : WX) : Option (Mo Hd) → TO
  | none => tNoPart
  | some f => tPart (tA K W f)
theorem bindP {β γ : Type} {rel : RC → Hp → γ → β → Prop} {f : Option (Mo Hd)} {k : Option Int → Mo γ} {Q : β → Hp → Prop} {Q2 : Option Int → Hp → Prop} {R : RC} {ρ : En} {r : R3 γ} (hk : R.K = K) (e : EnR R H ρ σ) (hf : Mo.bind (prtM f) k ρ = some r) (q : After W R ρ σ H rel Q r)
    (step : ∀ R1 ρ1 x H1, Nx R ρ σ H R1 ρ1 H1 → k x ρ1 = some r → After W R1 ρ1 σ H1 rel Q r → Q2 x H1) : tPr K W f σ H Q2 := by
  cases f with
  | none => exact step R ρ none H (Nx.refl e) hf q
  | some f =>
    rcases bind_ok hf with ⟨a, ρ1, h1, h2⟩ | ⟨x, ρ1, h1, rfl⟩
    · refine bindX (rel := fun _ _ (a : Option Int) (b : Option Int) => a = b) (Q := fun x H1 => ∃ i, x = some i ∧ Q2 x H1) hk e h1 (fun R1 x H1 n1 hx => ?_) fun R1 ρ2 x H1 b n1 hr h3 q1 => ?_
      · subst hx
        have : ∃ i, a = some i := by
          obtain ⟨b, ρ2, h3, h4⟩ | ⟨x, ρ2, h3, h4⟩ := bind_ok h1
          · obtain ⟨d, h5, h6⟩ := deref_ok h4
            cases d <;> cases h6
            exact ⟨_, rfl⟩
          · cases h4
        obtain ⟨i, rfl⟩ := this
        exact ⟨i, rfl, step R1 ρ1 _ H1 n1 h2 (q.nx n1)⟩
      · obtain ⟨d, h5, h6⟩ := deref_ok h3
        cases d with
        | int i =>
          cases h6
          obtain ⟨j, hj, h7⟩ := q1 R1 _ H1 (Nx.refl n1.en) rfl
          exact ⟨i, (deref1_ok n1.en hr h5).int, h7⟩
        | _ => cases h6
    · rcases bind_ok h1 with ⟨b, ρ2, h3, h4⟩ | ⟨x', ρ2, h3, h4⟩
      · obtain ⟨d, h5, h6⟩ := deref_ok h4
        cases d <;> cases h6
      · cases h4
        exact ⟨R, ρ, _, hk, e, h3, q⟩
theorem sliM_ok {f : Mo Hd} {lo hi : Option (Mo Hd)} {Q : VK} (h : tA K W (sliM f lo hi) σ H Q) : tSl (rSliD K) (tA K W f) (tPr K W lo) (tPr K W hi) σ H Q := by
  refine bindA (α := Unit) h fun R1 ρ1 x H1 a rr hk en hr h2 q => ?_
  refine bindP hk en h2 q fun R2 ρ2 l H2 n2 h3 q2 => ?_
  refine bindP (n2.k.trans hk) n2.en h3 q2 fun R3 ρ3 u H3 n3 h4 q3 => ?_
  obtain ⟨d, h5, h6⟩ := deref_ok h4
  obtain ⟨z, h7, h8⟩ := lift_ok h6
  cases h8
  exact sliD_ok ((n3.k.trans n2.k).trans hk) n3.en.tr (deref1_ok n3.en ((hr.to (n2.to en)).to (n3.to n2.en)) h5) h7 fun v H4 ex dr => q3 R3 v H4 (Nx.ex n3.en ex) dr
/-! ### isinstance(x, T) -/
def isiM (t : Ty) (f : Mo Hd) : Mo Hd := Mo.bind f fun a => Mo.bind (deref a) fun x => Mo.bind (Mo.lift (isiD t x)) fun b => Mo.pure (.val (.bl b))
theorem isiM_ok {t : Ty} {f : Mo Hd} {Q : VK} (h : tA K W (isiM t f) σ H Q) : tCB (rIsi K) (tCons (tA K W f) (tCons (tC (.ty t.nm)) tNil)) σ H Q := by
  refine bindA (α := Unit) h fun R1 ρ1 x H1 a rr hk en hr h2 q => ?_
  obtain ⟨d, h5, h6⟩ := deref_ok h2
  obtain ⟨z, h7, h8⟩ := lift_ok h6
  cases h8
  obtain ⟨ty, h9, h10⟩ := isi_ok hk (deref1_ok en hr h5) h7
  exact ⟨x, .ty t.nm, ty, .type t.nm, z, rfl, .ty _, h9, h10, q R1 _ H1 (Nx.refl en) (.bl _)⟩
/-! ### texts -/
def joinD : D → D → Option D
  | .str s, .lst ds => match strsD ds with
    | some ys => if (ys.map (·.length)).sum + ys.length * s.length ≤ 16777216 then some (.str (TL.joinL s ys)) else none
    | none => none
  | .str s, .tup ds => match strsD ds with
    | some ys => if (ys.map (·.length)).sum + ys.length * s.length ≤ 16777216 then some (.str (TL.joinL s ys)) else none
    | none => none
  | _, _ => none
def isS : D → Bool
  | .str _ => true
  | _ => false
/-- x.name(y), x a text -/
def met1 (op : D → D → Option D) (f g : Mo Hd) : Mo Hd := Mo.bind f fun a => Mo.bind (deref a) fun x => match isS x with
  | true => Mo.bind g fun b => Mo.bind (deref b) fun y => Mo.bind (Mo.lift (op x y)) fun d => Mo.pure (.val d)
  | false => Mo.lift none
def met0 (op : D → Option D) (f : Mo Hd) : Mo Hd := Mo.bind f fun a => Mo.bind (deref a) fun x => match isS x with
  | true => Mo.bind (Mo.lift (op x)) fun d => Mo.pure (.val d)
  | false => Mo.lift none
theorem met1_ok {r : V → List V → Hp → VK → Prop} {op : D → D → Option D} (ho : OpS K (fun x y H Q => r x [y] H Q) op) {f g : Mo Hd} {Q : VK} (h : tA K W (met1 op f g) σ H Q) : tM1 r (tA K W f) (tA K W g) σ H Q := by
  refine bindA (α := Unit) h fun R1 ρ1 x H1 a rr hk en hr h2 q => ?_
  obtain ⟨d, h5, h6⟩ := deref_ok h2
  cases d with
  | str s =>
    have hx := (deref1_ok en hr h5).str
    refine ⟨⟨_, hx⟩, bindX hk en h6 q fun R2 ρ2 y H2 b n2 hr2 h7 q2 => ?_⟩
    obtain ⟨e, h8, h9⟩ := deref_ok h7
    obtain ⟨z, h10, h11⟩ := lift_ok h9
    cases h11
    refine ho R2 H2 x y (.str s) e z _ (n2.k.trans hk) n2.en.tr ?_ (deref1_ok n2.en hr2 h8) h10 fun v H3 ex dr => q2 R2 v H3 (Nx.ex n2.en ex) dr
    rw [hx]
    exact .inl (.str s)
  | _ => cases h6
theorem met0_ok {r : V → List V → Hp → VK → Prop} {op : D → Option D} (ho : ∀ (R : RC) (H : Hp) (s : List Nat) (d : D) (Q : VK), R.K = K → (∀ z, R.M z → ∃ o, H z = some o) → op (.str s) = some d → (∀ z H', Evl.Ex H H' → DR R H' d z → Q z H') → r (.str ⟨s.toArray⟩) [] H Q)
    {f : Mo Hd} {Q : VK} (h : tA K W (met0 op f) σ H Q) : tM0 r (tA K W f) σ H Q := by
  refine bindA (α := Unit) h fun R1 ρ1 x H1 a rr hk en hr h2 q => ?_
  obtain ⟨d, h5, h6⟩ := deref_ok h2
  cases d with
  | str s =>
    have hx := (deref1_ok en hr h5).str
    subst hx
    obtain ⟨z, h10, h11⟩ := lift_ok h6
    cases h11
    exact ⟨⟨_, rfl⟩, ho R1 H1 s z _ hk en.tr h10 fun v H3 ex dr => q R1 v H3 (Nx.ex en ex) dr⟩
  | _ => cases h6
abbrev rJoin (K : PySem.W.Frag) : V → List V → Hp → VK → Prop := fun x xs H Q => ∃ a p, ∃ ys : List Str, x = .str a ∧ xs = [.ref p] ∧ (SqL K H p (ys.map V.str) ∨ SqT K H p (ys.map V.str)) ∧
    (ys.map (·.length)).sum + ys.length * a.length ≤ 16777216 ∧ Q (.str (Txt.join a ys)) H
theorem joinD_ok : OpS K (fun x y H Q => rJoin K x [y] H Q) joinD := by
  intro R H x y a b d Q hk tr ra rb e q
  have fin : ∀ (s : List Nat) (ys : List (List Nat)) (p : Addr), (ys.map (·.length)).sum + ys.length * s.length ≤ 16777216 → (SqL K H p ((ys.map fun s => (⟨s.toArray⟩ : Str)).map V.str) ∨ SqT K H p ((ys.map fun s => (⟨s.toArray⟩ : Str)).map V.str)) → d = .str (TL.joinL s ys) → x = .str ⟨s.toArray⟩ → y = .ref p → rJoin K x [y] H Q := by
    rintro s ys p hz hp rfl rfl rfl
    refine ⟨_, p, ys.map fun s => (⟨s.toArray⟩ : Str), rfl, rfl, hp, ?_, ?_⟩
    · rw [List.length_map, len_str, List.map_map]
      have : ((fun x : Str => x.length) ∘ fun s : List Nat => (⟨s.toArray⟩ : Str)) = fun s : List Nat => s.length := by
        funext s
        exact len_str s
      rw [this]
      exact hz
    · have e1 := SX.join_S s ys
      have e2 : Txt.join (⟨s.toArray⟩ : Str) (ys.map fun s => (⟨s.toArray⟩ : Str)) = ⟨(TL.joinL s ys).toArray⟩ := e1
      rw [e2]
      exact q _ H (Evl.Ex.refl H) (.str _)
  unfold joinD at e
  split at e
  · split at e
    · rename_i ys hy
      split at e
      · rename_i hz
        cases e
        obtain ⟨p, xs, rfl, h1, r1⟩ := rb.lst
        have := strsD_ok r1 hy
        subst this
        exact fin _ ys p hz (.inl (.inl (.inl h1))) rfl ra.str rfl
      · cases e
    · cases e
  · split at e
    · rename_i ys hy
      split at e
      · rename_i hz
        cases e
        obtain ⟨p, xs, rfl, h1, r1⟩ := rb.tup
        have := strsD_ok r1 hy
        subst this
        exact fin _ ys p hz (.inr (by rw [← hk]; exact h1.sq)) rfl ra.str rfl
      · cases e
    · cases e
  · cases e
def upL (s : List Nat) : List Nat := (Txt.upper ⟨s.toArray⟩).cps.toList
def upD : D → Option D
  | .str s => if s.length ≤ 5592405 then some (.str (upL s)) else none
  | _ => none
abbrev rUpper : V → List V → Hp → VK → Prop := fun x xs H Q => ∃ a, x = .str a ∧ xs = [] ∧ a.length ≤ 5592405 ∧ Q (.str (Txt.upper a)) H
theorem upD_ok : ∀ (R : RC) (H : Hp) (s : List Nat) (d : D) (Q : VK), R.K = K → (∀ z, R.M z → ∃ o, H z = some o) → upD (.str s) = some d → (∀ z H', Evl.Ex H H' → DR R H' d z → Q z H') → rUpper (.str ⟨s.toArray⟩) [] H Q := by
  intro R H s d Q _ _ e q
  have e : (if s.length ≤ 5592405 then some (D.str (upL s)) else none) = some d := e
  split at e
  · rename_i hz
    cases e
    refine ⟨_, rfl, rfl, by rw [len_str]; exact hz, q _ H (Evl.Ex.refl H) ?_⟩
    have : (Txt.upper ⟨s.toArray⟩ : Str) = ⟨(upL s).toArray⟩ := by simp [upL]
    rw [this]
    exact .str _
  · cases e
end
end Mi
set_option Elab.async false
set_option linter.all false
set_option maxRecDepth 100000
set_option maxHeartbeats 2000000
/-! M12: containers made anew, several at once; lists written -/
namespace Mi
open PySem L2

/-! ### made anew -/
section
variable {R : RC} {H : Hp} {ρ : En} {σ : St}
theorem new_ny (e : EnR R H ρ σ) {p : Addr} (hp : H p = none) {ds : List D} {xs : List V} (r : DRs R H ds xs) :
    Ny R ρ σ H (R.wth p) ρ (upd H p (.lst xs)) ∧ FrR (R.wth p) (upd H p (.lst xs)) ρ σ H (.new (.lst ds)) (.ref p) := by
  have ex : Evl.Ex H (upd H p (.lst xs)) := Evl.Ex.new hp
  have t : To R H (R.wth p) (upd H p (.lst xs)) := ⟨rfl, fun a h => h.elim .inl fun z => .inr (by rw [z]; exact hp), Keep.of_ex ex⟩
  have ne : ∀ {a : Addr}, R.M a → a ≠ p := fun {a} h z => e.fresh (by rw [z]; exact hp) h
  refine ⟨⟨⟨e.len, fun i s h => ?_, e.ap, fun a h => ?_⟩, rfl, t.m, fun a h => .inl (.inl h), Keep.of_ex ex, fun i l o h => ⟨o, h⟩, fun a o h => ⟨o, ex a o h⟩⟩, p, rfl, ⟨.inr rfl, xs, upd_same, r.to t⟩, fun z => e.fresh hp (e.own_m z), hp⟩
  · obtain ⟨y, h1, h2⟩ := e.sl i s h
    refine ⟨y, h1, ?_⟩
    cases s with
    | no => trivial
    | v d =>
      obtain ⟨x, h3, h4⟩ := h2
      exact ⟨x, h3, h4.to t⟩
    | own l o =>
      obtain ⟨a, h3, h4⟩ := h2
      exact ⟨a, h3, h4.to t (.inl h4.m) (upd_ne (ne h4.m))⟩
  · rcases h with h | rfl
    · obtain ⟨o, q⟩ := e.tr a h
      exact ⟨o, ex a o q⟩
    · exact ⟨_, upd_same⟩
end
/-- a result's own list is new -/
def NwR (R : RC) (H : Hp) (d : D) (z : V) (H' : Hp) : Prop := Evl.Ex H H' ∧ DR R H' d z ∧ ∀ ds, d = .lst ds → ∃ p xs, z = .ref p ∧ H p = none ∧ H' = upd H p (.lst xs) ∧ DRs R H ds xs
def freshL : D → Fr
  | .lst ds => .new (.lst ds)
  | d => .dat d
theorem nw_ny {R : RC} {H H' : Hp} {ρ : En} {σ : St} (e : EnR R H ρ σ) {d : D} {z : V} (n : NwR R H d z H') : ∃ R', Ny R ρ σ H R' ρ H' ∧ FrR R' H' ρ σ H (freshL d) z := by
  obtain ⟨ex, dr, h⟩ := n
  have gen : ∀ d', freshL d = .dat d' → d' = d → ∃ R', Ny R ρ σ H R' ρ H' ∧ FrR R' H' ρ σ H (freshL d) z := fun d' h1 h2 => by
    subst h2
    rw [h1]
    exact ⟨R, (Nx.ex e ex).ny, dr⟩
  cases d with
  | lst ds =>
    obtain ⟨p, xs, rfl, hp, rfl, r⟩ := h ds rfl
    obtain ⟨h1, h2⟩ := new_ny e hp r
    exact ⟨_, h1, h2⟩
  | _ => exact gen _ rfl rfl
def OpN (K : PySem.W.Frag) (r : R2) (op : D → D → Option D) : Prop := ∀ (R : RC) (H : Hp) (x y : V) (a b d : D) (Q : VK), R.K = K → (∀ z, R.M z → ∃ o, H z = some o) → AR R H a x → AR R H b y → op a b = some d →
  (∀ z H', NwR R H d z H' → Q z H') → r x y H Q
def CallN (K : PySem.W.Frag) (r : List V → Hp → VK → Prop) (fn : List D → Option D) : Prop := ∀ (R : RC) (H : Hp) (xs : List V) (ds : List D) (d : D) (Q : VK), R.K = K → (∀ z, R.M z → ∃ o, H z = some o) → ARs R H ds xs → fn ds = some d →
  (∀ z H', NwR R H d z H' → Q z H') → r xs H Q
theorem OpN.of {K : PySem.W.Frag} {r : R2} {op : D → D → Option D} (h : OpS K r op) (nl : ∀ a b ds, op a b ≠ some (.lst ds)) : OpN K r op := fun R H x y a b d Q hk tr ra rb e q =>
  h R H x y a b d Q hk tr ra rb e fun z H' ex dr => q z H' ⟨ex, dr, fun ds hd => absurd (hd ▸ e) (nl a b ds)⟩
theorem OpN.or {K : PySem.W.Frag} {r r' : R2} {f g : D → D → Option D} (h : OpN K r f) (h' : OpN K r' g) : OpN K (fun x y H Q => r x y H Q ∨ r' x y H Q) (fun a b => (f a b).or (g a b)) := by
  intro R H x y a b d Q hk tr ra rb e q
  cases hf : f a b with
  | some d' =>
    simp [hf] at e
    subst e
    exact .inl (h R H x y a b _ Q hk tr ra rb hf q)
  | none =>
    simp [hf] at e
    exact .inr (h' R H x y a b _ Q hk tr ra rb e q)
theorem intOp_nl {c : Int → Int → Bool} {f : Int → Int → D} (hf : ∀ i j ds, f i j ≠ .lst ds) : ∀ a b ds, intOp c f a b ≠ some (.lst ds) := by
  intro a b ds h
  unfold intOp at h
  split at h
  · split at h
    · exact hf _ _ _ (Option.some.inj h)
    · cases h
  · cases h
theorem catStr_nl : ∀ a b ds, catStr a b ≠ some (.lst ds) := by
  intro a b ds h
  unfold catStr at h
  split at h
  · split at h <;> cases h
  · cases h
theorem catTup_nl : ∀ a b ds, catTup a b ≠ some (.lst ds) := by
  intro a b ds h
  unfold catTup at h
  split at h
  · split at h <;> cases h
  · cases h
theorem catLstN_ok {K : PySem.W.Frag} : OpN K rCat catLst := by
  intro R H x y a b d Q hk tr ra rb e q
  unfold catLst at e
  split at e
  · split at e
    · rename_i hz
      cases e
      obtain ⟨p, xs, rfl, h1, r1⟩ := ra.lst
      obtain ⟨p', ys, rfl, h2, r2⟩ := rb.lst
      refine ⟨p, p', xs, ys, rfl, rfl, h1, h2, by rw [← r1.len, ← r2.len]; exact hz, fun l hl => ?_⟩
      obtain ⟨ex, dr⟩ := new_lst tr hl (r1.append r2)
      exact q _ _ ⟨ex, dr, fun ds hd => by
        cases hd
        exact ⟨l, xs ++ ys, rfl, hl, rfl, r1.append r2⟩⟩
    · cases e
  · cases e
theorem addN_ok {K : PySem.W.Frag} : OpN K (rAddD K) addD :=
  OpN.or (OpN.of (intOp0_ok fun _ _ _ _ => .int _) (intOp_nl fun _ _ _ h => by cases h)) (OpN.or (OpN.of catStr_ok catStr_nl) (OpN.or catLstN_ok (OpN.of catTup_ok catTup_nl)))
section
variable {K : PySem.W.Frag} {W : WX} {σ : St} {H : Hp}
/-- f, then k, to a result -/
theorem bindN {f : Mo Hd} {k : Hd → Mo Fr} {Q : VK} {Q2 : VK} {R : RC} {ρ : En} {r : R3 Fr} (hk : R.K = K) (e : EnR R H ρ σ) (hf : Mo.bind f k ρ = some r) (q : AfterN W R ρ σ H Q r)
    (step : ∀ R1 ρ1 x H1 a, Nx R ρ σ H R1 ρ1 H1 → HdR R1 H1 σ a x → k a ρ1 = some r → AfterN W R1 ρ1 σ H1 Q r → Q2 x H1) : tA K W f σ H Q2 := by
  rcases bind_ok hf with ⟨a, ρ1, h1, h2⟩ | ⟨x, ρ1, h1, rfl⟩
  · refine ⟨R, ρ, _, hk, e, h1, fun R1 x H1 n1 r1 => step R1 ρ1 x H1 a n1 r1 h2 ?_⟩
    cases r with
    | ok fr ρ' =>
      intro R' x H' n rr
      refine q R' x H' (n1.ny.trans n) ?_
      cases fr with
      | dat d => exact rr
      | new o =>
        obtain ⟨p, h3, h4, h5, h6⟩ := rr
        exact ⟨p, h3, h4, h5, none_of n1.al h6⟩
    | ex x ρ' => exact fun R' H' cls d n er => q R' H' cls d (n1.trans n) er
  · exact ⟨R, ρ, _, hk, e, h1, q⟩
def opN (op : D → D → Option D) (f g : Mo Hd) : Mo Fr := Mo.bind f fun a => Mo.bind g fun b => Mo.bind (deref a) fun x => Mo.bind (deref b) fun y => Mo.bind (Mo.lift (op x y)) fun d => Mo.pure (freshL d)
theorem opN_ok {r : R2} {op : D → D → Option D} (ho : OpN K r op) {f g : Mo Hd} {Q : VK} (h : tN K W (opN op f g) σ H Q) : tOp r (tA K W f) (tA K W g) σ H Q := by
  obtain ⟨R, ρ, rr, hk, e, hf, q⟩ := h
  refine bindN hk e hf q fun R1 ρ1 x H1 a n1 hr h2 q1 => ?_
  refine bindN (n1.k.trans hk) n1.en h2 q1 fun R2 ρ2 y H2 b n2 hr2 h3 q2 => ?_
  obtain ⟨da, h4, h5⟩ := deref_ok h3
  obtain ⟨db, h6, h7⟩ := deref_ok h5
  obtain ⟨z, h8, h9⟩ := lift_ok h7
  cases h9
  refine ho R2 H2 x y da db z Q ((n2.k.trans n1.k).trans hk) n2.en.tr (deref1_ok n2.en (hr.to (n2.to n1.en)) h4) (deref1_ok n2.en hr2 h6) h8 fun v H3 nw => ?_
  obtain ⟨R3, n3, r3⟩ := nw_ny n2.en nw
  exact q2 R3 v H3 n3 r3
/-- a list display -/
def lstN (g : Mo (List Hd)) : Mo Fr := Mo.bind g fun hs => Mo.bind (freezes hs) fun ds => Mo.bind (Mo.lift (if ds.length ≤ sizeLine then some ds else none)) fun ds => Mo.pure (.new (.lst ds))
theorem lstN_ok {g : Mo (List Hd)} {Q : VK} (h : tN K W (lstN g) σ H Q) : tLst (tAs K W g) σ H Q := by
  obtain ⟨R, ρ, rr, hk, e, hf, q⟩ := h
  rcases bind_ok hf with ⟨hs, ρ1, h1, h2⟩ | ⟨x, ρ1, h1, rfl⟩
  · refine ⟨R, ρ, _, hk, e, h1, fun R1 xs H1 n1 r1 => ?_⟩
    rcases bind_ok h2 with ⟨ds, ρ2, h3, h4⟩ | ⟨x, ρ2, h3, _⟩
    · obtain ⟨ds', ρ2', z, R2, n2, r2⟩ := freezes_ok n1.en r1 h3
      cases z
      obtain ⟨ds1, h5, h6⟩ := lift_ok h4
      cases h6
      split at h5
      · rename_i hz
        cases h5
        refine ⟨by rw [← r2.len]; exact hz, fun p hp => ?_⟩
        obtain ⟨n3, r3⟩ := new_ny n2.en hp r2
        have nn := n1.trans n2
        refine q _ _ _ (nn.ny.trans n3) ?_
        obtain ⟨p', h7, h8, h9, h10⟩ := r3
        exact ⟨p', h7, h8, h9, none_of nn.al h10⟩
      · cases h5
    · obtain ⟨ds', ρ2', z, _⟩ := freezes_ok n1.en r1 h3
      cases z
  · exact ⟨R, ρ, _, hk, e, h1, q⟩
/-- a built-in that makes a list -/
def callN (fn : List D → Option D) (g : Mo (List Hd)) : Mo Fr := Mo.bind g fun hs => Mo.bind (derefs hs) fun ds => Mo.bind (Mo.lift (fn ds)) fun d => Mo.pure (freshL d)
theorem callN_ok {r : List V → Hp → VK → Prop} {fn : List D → Option D} (ho : CallN K r fn) {g : Mo (List Hd)} {Q : VK} (h : tN K W (callN fn g) σ H Q) : tCB r (tAs K W g) σ H Q := by
  obtain ⟨R, ρ, rr, hk, e, hf, q⟩ := h
  rcases bind_ok hf with ⟨hs, ρ1, h1, h2⟩ | ⟨x, ρ1, h1, rfl⟩
  · refine ⟨R, ρ, _, hk, e, h1, fun R1 xs H1 n1 r1 => ?_⟩
    unfold Mo.bind derefs at h2
    cases k1 : derefs1 ρ1 hs with
    | none => simp [k1] at h2
    | some ds =>
      cases k2 : fn ds with
      | none => simp [k1, k2, Mo.lift] at h2
      | some d =>
        simp [k1, k2, Mo.lift, Mo.pure] at h2
        subst h2
        refine ho R1 H1 xs ds d Q (n1.k.trans hk) n1.en.tr (derefs1_ok n1.en r1 k1) k2 fun z H3 nw => ?_
        obtain ⟨R3, n3, r3⟩ := nw_ny n1.en nw
        refine q R3 z H3 (n1.ny.trans n3) ?_
        revert r3
        cases freshL d with
        | dat d => exact fun r3 => r3
        | new o => exact fun ⟨p', h7, h8, h9, h10⟩ => ⟨p', h7, h8, h9, none_of n1.al h10⟩
  · exact ⟨R, ρ, _, hk, e, h1, q⟩
theorem listN_ok : CallN K (fun xs H Q => ∃ p ys, xs = [V.ref p] ∧ (SqL K H p ys ∨ SqT K H p ys) ∧ ∀ l, H l = none → Q (.ref l) (upd H l (.lst ys))) listB := by
  intro R H xs ds d Q hk tr ra e q
  unfold listB at e
  split at e
  · cases e
    obtain ⟨x, rfl, a⟩ := ra.one
    obtain ⟨p, ys, rfl, h1, r1⟩ := a.lst
    refine ⟨p, ys, rfl, .inl (.inl (.inl h1)), fun l hl => ?_⟩
    obtain ⟨ex, dr⟩ := new_lst tr hl r1
    exact q _ _ ⟨ex, dr, fun ds hd => by cases hd; exact ⟨l, ys, rfl, hl, rfl, r1⟩⟩
  · cases e
    obtain ⟨x, rfl, a⟩ := ra.one
    obtain ⟨p, ys, rfl, h1, r1⟩ := a.tup
    refine ⟨p, ys, rfl, .inr (by rw [← hk]; exact h1.sq), fun l hl => ?_⟩
    obtain ⟨ex, dr⟩ := new_lst tr hl r1
    exact q _ _ ⟨ex, dr, fun ds hd => by cases hd; exact ⟨l, ys, rfl, hl, rfl, r1⟩⟩
  · cases e
    obtain ⟨x, rfl, a⟩ := ra.one
    obtain ⟨p, ys, rfl, h1, r1⟩ := a.frz
    refine ⟨p, ys, rfl, .inl (by rw [← hk]; exact h1.sq), fun l hl => ?_⟩
    obtain ⟨ex, dr⟩ := new_lst tr hl r1
    exact q _ _ ⟨ex, dr, fun ds hd => by cases hd; exact ⟨l, ys, rfl, hl, rfl, r1⟩⟩
  · cases e

/-! ### several results -/
inductive FrRs (R : RC) (H : Hp) (ρ : En) (σ : St) (H0 : Hp) : List Fr → List V → Prop
  | nil : FrRs R H ρ σ H0 [] []
  | cons {fr : Fr} {x : V} {frs : List Fr} {xs : List V} : FrR R H ρ σ H0 fr x → FrRs R H ρ σ H0 frs xs → (∀ (o o2 : Ow) (k : Nat), fr = .new o → frs[k]? = some (.new o2) → xs[k]? ≠ some x) → FrRs R H ρ σ H0 (fr :: frs) (x :: xs)
def tNs (K : PySem.W.Frag) (W : WX) (f : Mo (List Fr)) : TA := fun σ H Q => ∃ R ρ r, R.K = K ∧ EnR R H ρ σ ∧ f ρ = some r ∧ match r with
  | .ok frs ρ' => ∀ R' xs H', Ny R ρ σ H R' ρ' H' → FrRs R' H' ρ' σ H frs xs → Q xs H'
  | .ex x ρ' => ∀ R' H' cls d, Nx R ρ σ H R' ρ' H' → ExR R' H' x cls d → W cls d σ H'
theorem FrRs.base {R : RC} {H : Hp} {ρ : En} {σ : St} {H0 H1 : Hp} (al : ∀ a o, H0 a = some o → ∃ u, H1 a = some u) : ∀ {frs : List Fr} {xs : List V}, FrRs R H ρ σ H1 frs xs → FrRs R H ρ σ H0 frs xs
  | _, _, .nil => .nil
  | _, _, .cons (fr := fr) a b c => .cons (by
      cases fr with
      | dat d => exact a
      | new o =>
        obtain ⟨p, h3, h4, h5, h6⟩ := a
        exact ⟨p, h3, h4, h5, none_of al h6⟩) (FrRs.base al b) c
theorem FrRs.new {R : RC} {H : Hp} {ρ : En} {σ : St} {H0 : Hp} : ∀ {frs : List Fr} {xs : List V} {k : Nat} {o : Ow}, FrRs R H ρ σ H0 frs xs → frs[k]? = some (.new o) → ∃ p, xs[k]? = some (.ref p) ∧ H0 p = none
  | _, _, k, _, .nil, h => by simp at h
  | _, _, 0, o, .cons a b c, h => by
    simp at h
    subst h
    obtain ⟨p, rfl, _, _, h6⟩ := a
    exact ⟨p, rfl, h6⟩
  | _, _, k + 1, o, .cons a b c, h => by
    obtain ⟨p, h1, h2⟩ := FrRs.new (k := k) b (by simpa using h)
    exact ⟨p, by simpa using h1, h2⟩
theorem tNs_nil {Q : List V → Hp → Prop} (h : tNs K W (Mo.pure []) σ H Q) : tNil σ H Q := by
  obtain ⟨R, ρ, r, hk, e, hf, q⟩ := h
  cases hf
  exact q R [] H (Nx.refl e).ny .nil
theorem tNs_cons {f : Mo Fr} {g : Mo (List Fr)} {Q : List V → Hp → Prop} (h : tNs K W (Mo.bind f fun a => Mo.bind g fun as => Mo.pure (a :: as)) σ H Q) : tCons (tN K W f) (tNs K W g) σ H Q := by
  obtain ⟨R, ρ, r, hk, e, hf, q⟩ := h
  rcases bind_ok hf with ⟨a, ρ1, h1, h2⟩ | ⟨x, ρ1, h1, rfl⟩
  · refine ⟨R, ρ, _, hk, e, h1, fun R1 x H1 n1 r1 => ?_⟩
    rcases bind_ok h2 with ⟨as, ρ2, h3, h4⟩ | ⟨x, ρ2, h3, rfl⟩
    · cases h4
      refine ⟨R1, ρ1, _, n1.k.trans hk, n1.en, h3, fun R2 xs H2 n2 r2 => q R2 (x :: xs) H2 (n1.trans n2) ?_⟩
      refine .cons ?_ (r2.base n1.al) fun o o2 k ho hk2 hx => ?_
      · cases a with
        | dat d => exact DR.to (n2.to n1.en) r1
        | new o =>
          obtain ⟨p, rfl, h6, h7, h8⟩ := r1
          obtain ⟨ob, h9⟩ := n1.en.tr p h6.m
          exact ⟨p, rfl, h6.to (n2.to n1.en) ((n2.cov p h6.m).resolve_right h7) (by rw [n2.h p ob h9 h7, h9]), fun z => h7 (n2.owns z), h8⟩
      · subst ho
        obtain ⟨p, rfl, h6, h7, h8⟩ := r1
        obtain ⟨p2, h9, h10⟩ := r2.new hk2
        rw [hx] at h9
        cases h9
        obtain ⟨ob, h11⟩ := n1.en.tr p h6.m
        rw [h10] at h11
        cases h11
    · refine ⟨R1, ρ1, _, n1.k.trans hk, n1.en, h3, fun R2 H2 cls d n2 er => ?_⟩
      have n3 := n1.trans n2.ny
      -- what was made on the way is let go
      have t : To R2 H2 ⟨R2.K, fun a => R2.M a ∧ R.M a⟩ H2 := ⟨rfl, fun a h => .inl h.1, Keep.refl⟩
      obtain ⟨R3, n4, r4⟩ := fr_drop (fr := .dat .non) e n3 (x := .non) .non
      exact q _ H2 cls d (show Nx R ρ σ H ⟨R2.K, fun a => R2.M a ∧ R.M a⟩ ρ2 H2 from ⟨⟨n3.en.len, fun i s h => by
        obtain ⟨y, k1, k2⟩ := n3.en.sl i s h
        refine ⟨y, k1, ?_⟩
        cases s with
        | no => trivial
        | v d =>
          obtain ⟨z, k3, k4⟩ := k2
          exact ⟨z, k3, k4.to t⟩
        | own l o =>
          obtain ⟨a, k3, k4⟩ := k2
          subst k3
          exact ⟨a, rfl, k4.to t ⟨k4.m, e.own_m (n3.owns ⟨i, l, o, h, k1⟩)⟩ rfl⟩, n3.en.ap, fun a h => n3.en.tr a h.1⟩, n3.k, fun a h => h.2, fun a h => (n3.cov a h).imp_left fun q => ⟨q, h⟩, n3.h, n3.own, n3.al⟩) (er.to t)
  · exact ⟨R, ρ, _, hk, e, h1, q⟩
/-! ### into slots -/
def setAll : En → List Nat → List Fr → En
  | ρ, i :: is, fr :: frs => setAll (ρ.set i (slotOf fr)) is frs
  | ρ, _, _ => ρ
def setAllV : St → List Nat → List V → St
  | σ, i :: is, x :: xs => setAllV (σ.set i (some x)) is xs
  | σ, _, _ => σ
theorem FrRs.set {R : RC} {H : Hp} {ρ : En} {σ : St} {H0 : Hp} {fr : Fr} {x : V} (i : Nat) (hl : ρ.length = σ.length) (hfr : FrR R H ρ σ H0 fr x) : ∀ {frs : List Fr} {xs : List V}, FrRs R H ρ σ H0 frs xs → (∀ (o o2 : Ow) (k : Nat), fr = .new o → frs[k]? = some (.new o2) → xs[k]? ≠ some x) → FrRs R H (ρ.set i (slotOf fr)) (σ.set i (some x)) H0 frs xs
  | _, _, .nil, _ => .nil
  | _, _, .cons (fr := f2) (x := y) (frs := frs) (xs := xs) a b c, d => .cons (by
      cases f2 with
      | dat d => exact a
      | new o2 =>
        obtain ⟨p, rfl, h4, h5, h6⟩ := a
        refine ⟨p, rfl, h4, ?_, h6⟩
        rintro ⟨j, l, u, h7, h8⟩
        rcases set_get h7 with ⟨rfl, e, hj⟩ | ⟨hne, h7⟩
        · rw [List.getElem?_set_self (by rw [← hl]; exact hj)] at h8
          cases h8
          cases fr with
          | dat d => cases e
          | new o => exact d o o2 0 rfl rfl rfl
        · rw [List.getElem?_set_ne hne] at h8
          exact h5 ⟨j, l, u, h7, h8⟩) (FrRs.set i hl hfr b fun o o2 k h1 h2 => by
        have := d o o2 (k + 1) h1 (by simpa using h2)
        simpa using this) c
theorem setAll_ns {R R' : RC} {ρ : En} {σ : St} {H H' : Hp} : ∀ {is : List Nat} {frs : List Fr} {xs : List V} {ρ' : En} {σ' : St}, Ns R ρ σ H R' ρ' σ' H' → FrRs R' H' ρ' σ' H frs xs → Ns R ρ σ H R' (setAll ρ' is frs) (setAllV σ' is xs) H'
  | [], _, _, _, _, n, .nil => n
  | [], _, _, _, _, n, .cons _ _ _ => n
  | _ :: _, _, _, _, _, n, .nil => n
  | i :: is, _, _, _, _, n, .cons a b c => by
    have := setAll_ns (is := is) (set_ns2 n a i) (b.set i n.en.len a c)
    exact this
theorem setAllV_snoc : ∀ {is : List Nat} {xs : List V} {σ : St} {i : Nat} {x : V}, is.length = xs.length → setAllV σ (is ++ [i]) (xs ++ [x]) = (setAllV σ is xs).set i (some x)
  | [], [], _, _, _, _ => rfl
  | [], _ :: _, _, _, _, h => by simp at h
  | _ :: _, [], _, _, _, h => by simp at h
  | j :: is, y :: xs, σ, i, x, h => setAllV_snoc (is := is) (xs := xs) (σ := σ.set j (some y)) (by simpa using h)
theorem setAllV_out : ∀ {is : List Nat} {xs : List V} {σ : St} {i : Nat} {x : V}, i ∉ is → setAllV (σ.set i (some x)) is xs = (setAllV σ is xs).set i (some x)
  | [], xs, _, _, _, _ => by unfold setAllV; rfl
  | j :: is, [], _, _, _, _ => rfl
  | j :: is, y :: xs, σ, i, x, h => by
    simp only [List.mem_cons, not_or] at h
    show setAllV ((σ.set i (some x)).set j (some y)) is xs = (setAllV (σ.set j (some y)) is xs).set i (some x)
    rw [List.set_comm _ _ h.1, setAllV_out h.2]
theorem setAllV_rev : ∀ {is : List Nat} {xs : List V} {σ : St}, is.Nodup → is.length = xs.length → setAllV σ is.reverse xs.reverse = setAllV σ is xs
  | [], [], _, _, _ => rfl
  | [], _ :: _, _, _, h => by simp at h
  | _ :: _, [], _, _, h => by simp at h
  | i :: is, x :: xs, σ, hn, h => by
    rw [List.nodup_cons] at hn
    rw [List.reverse_cons, List.reverse_cons, setAllV_snoc (by simpa using h), setAllV_rev hn.2 (by simpa using h)]
    exact (setAllV_out hn.1).symm
def parM (f : Mo (List Fr)) (is : List Nat) : Ms := Mo.bind f fun frs ρ => match frs.length == is.length with
  | true => some (.ok .nx (setAll ρ is frs))
  | false => none
theorem FrRs.len {R : RC} {H : Hp} {ρ : En} {σ : St} {H0 : Hp} : ∀ {frs : List Fr} {xs : List V}, FrRs R H ρ σ H0 frs xs → frs.length = xs.length
  | _, _, .nil => rfl
  | _, _, .cons _ b _ => by simp [FrRs.len b]
theorem parM_ok {f : Mo (List Fr)} {is : List Nat} {D : Ends} (h : tS K W (parM f is) D σ H) : tNs K W f σ H fun xs H1 => xs.length = is.length ∧ ∀ H2, Evl.Ex H1 H2 → D.nx (setAllV σ is xs) H2 := by
  obtain ⟨R, ρ, r, hk, e, hf, q⟩ := h
  rcases bind_ok hf with ⟨frs, ρ1, h1, h2⟩ | ⟨x, ρ1, h1, rfl⟩
  · refine ⟨R, ρ, _, hk, e, h1, fun R1 xs H1 n1 r1 => ?_⟩
    cases hl : frs.length == is.length with
    | false => simp [hl] at h2
    | true =>
      simp only [hl] at h2
      cases h2
      have hl := eq_of_beq hl
      refine ⟨by rw [← r1.len]; exact hl, fun H2 ex => q R1 _ H2 ?_⟩
      have n2 := setAll_ns (is := is) n1.ns r1
      exact Ns.trans e n2 (Nx.ex n2.en ex).ns
  · exact ⟨R, ρ, _, hk, e, h1, fun R' H' cls d n er => q R' σ H' cls d n.ns er⟩
end
def gNames : List Nat → TGs
  | [] => gNil
  | i :: is => gCons (gName i) (gNames is)
theorem gNames_ok {Q : St → Hp → Prop} {H : Hp} : ∀ {is : List Nat} {xs : List V} {σ : St}, xs.length = is.length → Q (setAllV σ is xs) H → gNames is xs σ H Q
  | [], [], _, _, h => ⟨rfl, h⟩
  | [], _ :: _, _, h, _ => by simp at h
  | _ :: _, [], _, h, _ => by simp at h
  | i :: is, x :: xs, σ, h, q => ⟨x, xs, rfl, gNames_ok (by simpa using h) q⟩
section
variable {X : Cx} {pos pt pt2 : Pos} {kt k2 : Nat} {ts es : List Expr} {is : List Nat} {W : WX} {f : Mo (List Fr)}
/-- a, b, .. = x, y, .. by way of a tuple -/
theorem ps_parT (hc : X.calm = true) (ha : PA X es (tNs X.K W f)) (hg : PGs X ts (gNames is)) (hn : (assignEach ts X.env).length = is.length) (hst : (assignEach ts X.env).findIdx? (·.1) = none)
    (hsm : is.length ≤ sizeLine) (hw : swappedStores [.Tuple ts kt pt] (.Tuple es k2 pt2) X.env = pure none) : PS X (.Assign [.Tuple ts kt pt] (.Tuple es k2 pt2) pos) (tS X.K W (parM f is)) := by
  refine PS.imp (ps_asg (pe_tup ha) (pg_tup hc hg hn hst) rfl hw rfl) ?_
  intro D σ H h
  obtain ⟨R, ρ, r, hk, e, hf, q⟩ := parM_ok h
  refine ⟨R, ρ, r, hk, e, hf, ?_⟩
  cases r with
  | ex x ρ' => exact q
  | ok frs ρ' =>
    intro R' xs H' n r'
    obtain ⟨h1, h2⟩ := q R' xs H' n r'
    have hz : xs.length ≤ sizeLine := by rw [h1]; exact hsm
    exact ⟨hz, fun p hp => ⟨p, xs, rfl, .inl (.inl upd_same), h1, gNames_ok h1 (h2 _ (Evl.Ex.new hp))⟩⟩
end
end Mi
set_option Elab.async false
set_option linter.all false
set_option maxRecDepth 100000
set_option maxHeartbeats 2000000
/-! M13: swapped stores; lists written; augmented stores -/
namespace Mi
open PySem PySem.Spec L2
open PyProof.Rows hiding St

section
variable {X : Cx} {pos pt pt2 : Pos} {kt k2 : Nat} {ts es : List Expr} {W : WX} {f : Mo (List Fr)}
/-- names stored one after another -/
theorem bind_all (hN : X.N.Nodup) {pins : List (Addr × Obj)} {H : Hp} : ∀ {is : List Nat} {names : List Str} {xs : List V} {us : List Value} {σ : St} {s : Shared} {Q : Unit → Shared → Prop}, Inv X pins σ H s → Vals xs us → names.length = is.length → xs.length = is.length →
    (∀ (k i : Nat) (x : Str), is[k]? = some i → names[k]? = some x → X.N[i]? = some x ∧ X.env.scope.names.lookup x = some .local) → (∀ s', Inv X pins (setAllV σ is xs) H s' → Q () s') → wpAny (model X.prog X.w) X.A (assignInOrder (names.map fun n v => bindName X.env n v) us) Q X.xe s
  | [], [], [], _, σ, s, Q, I, .nil, _, _, _, h => assignInOrder_nil (h s I)
  | [], [], _ :: _, _, _, _, _, _, _, _, h2, _, _ => by simp at h2
  | [], _ :: _, _, _, _, _, _, _, _, h1, _, _, _ => by simp at h1
  | _ :: _, [], _, _, _, _, _, _, _, h1, _, _, _ => by simp at h1
  | _ :: _, _ :: _, [], _, _, _, _, _, _, _, h2, _, _ => by simp at h2
  | i :: is, n :: names, x :: xs, _, σ, s, Q, I, .cons r rr, h1, h2, hn, h => by
    obtain ⟨g1, g2⟩ := hn 0 i n rfl rfl
    refine assignInOrder_cons (wpAny_bindName (store_ok I hN g1 (.inl g2) r (fun s2 I2 => ?_) (.inr g2)))
    exact bind_all hN I2 rr (by simpa using h1) (by simpa using h2) (fun k j y e1 e2 => hn (k + 1) j y (by simpa using e1) (by simpa using e2)) h
/-- a, b, .. = x, y, ..: the stores swapped -/
theorem ps_parS {is : List Nat} {names : List Str} (hc : X.calm = true) (hN : X.N.Nodup) (ha : PA X es (tNs X.K W f)) (hl : names.length = is.length) (hnd : is.Nodup)
    (hn : ∀ (k i : Nat) (x : Str), is[k]? = some i → names[k]? = some x → X.N[i]? = some x ∧ X.env.scope.names.lookup x = some .local) (hsm : is.length ≤ sizeLine)
    (hw : swappedStores [.Tuple ts kt pt] (.Tuple es k2 pt2) X.env = pure (some names)) : PS X (.Assign [.Tuple ts kt pt] (.Tuple es k2 pt2) pos) (tS X.K W (parM f is)) := by
  refine ⟨fun pins s σ H D I h => ?_⟩
  have h := parM_ok h
  rw [exec_Assign_arm]
  refine wpAny_bind (wpAny_standAt ?_)
  have hs : swapsWithSole [.Tuple ts kt pt] (.Tuple es k2 pt2) pos.line X.env = pure false := rfl
  rw [hs]
  refine wpAny_bind (wpAny_pure ?_)
  rw [if_neg (by decide)]
  refine wpAny_bind (Tuple_ (thn (ha.run _ pins s σ H _ I h) fun us s1 ⟨xs, H1, I1, r1, h1, q1⟩ => ?_))
  have hul : us.length = is.length := by rw [← r1.length]; exact h1
  refine wpAny_newObj_type ?_ (by show us.toArray.size ≤ sizeLine; rw [List.size_toArray, hul]; exact hsm)
  have I2 : Inv X pins σ H1 { s1 with heap := s1.heap.push { cls := .type "tuple", data := .seq us.toArray } } := I1.kept (t' := s1.toks) fun b o e => Heap.get?_push_of_some _ e
  rw [hw]
  refine wpAny_bind (wpAny_pure ?_)
  show wpAny (model X.prog X.w) X.A (do rule "assign.swapped-stores"; let items ← unpackItems (.ref s1.heap.objs.size) names.length none; assignInOrder (names.reverse.map fun n => bindName X.env n) items.reverse; pure Flow.next) _ _ _
  have hsz : names.length = us.toArray.size := by rw [List.size_toArray, hul, hl]
  rw [hsz]
  refine wpAny_bind (wpAny_rule (wpAny_bind (unpackItems_tuple (items := us.toArray) (I.ok.hd hc) (IsTup.new s1.heap _) fun h' hx' => ?_)))
  have I3 := I2.kept (h' := h') (t' := s1.toks) fun b o e => hx' b o (Nat.ne_of_lt (Heap.lt_size e)) e
  have rv : Vals xs.reverse us.toArray.toList.reverse := by
    rw [List.toList_toArray]
    clear hw h I2 I3 hx' I1 hul hsz q1
    have go : ∀ {xs : List V} {us : List Value}, Vals xs us → Vals xs.reverse us.reverse := fun {xs us} r => by
      induction r with
      | nil => exact .nil
      | cons r t ih =>
        rw [List.reverse_cons, List.reverse_cons]
        exact ih.append (.cons r .nil)
    exact go r1
  refine wpAny_bind (bind_all (names := names.reverse) hN I3 rv (is := is.reverse) (by simpa using hl) (by simpa using h1) (fun k i x e1 e2 => ?_) fun s' I' => wpAny_pure ?_)
  · have hk : k < is.length := by simpa using (List.getElem?_eq_some_iff.mp e1).1
    rw [List.getElem?_reverse (by simpa using hk)] at e1
    rw [List.getElem?_reverse (by rw [hl]; exact hk)] at e2
    rw [hl] at e2
    exact hn _ i x e1 e2
  · rw [setAllV_rev hnd h1.symm] at I'
    exact ⟨_, H1, I', q1 H1 (Evl.Ex.refl H1)⟩
end

/-! ### a list of one's own is written -/
section
variable {R : RC} {H : Hp} {ρ : En} {σ : St}
theorem own_upd (e : EnR R H ρ σ) {i : Nat} {l : Bool} {o : Ow} {a : Addr} (h : ρ[i]? = some (.own l o)) (hs : σ[i]? = some (some (.ref a))) {ds : List D} {xs : List V} (r : DRs R H ds xs) :
    Nx R ρ σ H R (ρ.set i (.own l (.lst ds))) (upd H a (.lst xs)) := by
  have ow : Owns ρ σ a := ⟨i, l, o, h, hs⟩
  have hm := e.own_m ow
  have kp : ∀ (O : Addr → Prop), O a → Keep O H (upd H a (.lst xs)) := fun O ha b u hb hn => by
    rw [upd_ne fun z => hn (by rw [z]; exact ha)]
    exact hb
  have t : To R H R (upd H a (.lst xs)) := ⟨rfl, fun _ h => .inl h, kp _ hm⟩
  have own' : ∀ (j : Nat) (l1 : Bool) (o1 : Ow), (ρ.set i (.own l (.lst ds)))[j]? = some (.own l1 o1) → ∃ u, ρ[j]? = some (.own l1 u) := fun j l1 o1 h1 => by
    rcases set_get h1 with ⟨rfl, e, _⟩ | ⟨_, h1⟩
    · cases e
      exact ⟨o, h⟩
    · exact ⟨o1, h1⟩
  refine ⟨⟨by rw [List.length_set]; exact e.len, fun j s hj => ?_, fun j k l1 m1 o1 u1 hjk hj hk => ?_, fun b hb => ?_⟩, rfl, fun _ h => h, fun _ h => .inl h, kp _ ow, own', fun b u hb => ?_⟩
  · rcases set_get hj with ⟨rfl, rfl, _⟩ | ⟨hne, hj⟩
    · exact ⟨_, hs, a, rfl, hm, xs, upd_same, r.to t⟩
    · obtain ⟨y, h1, h2⟩ := e.sl j s hj
      refine ⟨y, h1, ?_⟩
      cases s with
      | no => trivial
      | v d =>
        obtain ⟨z, h3, h4⟩ := h2
        exact ⟨z, h3, h4.to t⟩
      | own l1 o1 =>
        obtain ⟨b, h3, h4⟩ := h2
        refine ⟨b, h3, h4.to t h4.m (upd_ne fun z => ?_)⟩
        subst z
        exact e.ap i j _ _ _ _ hne h hj (by rw [hs, h1, h3])
  · obtain ⟨u2, h1⟩ := own' j l1 o1 hj
    obtain ⟨u3, h2⟩ := own' k m1 u1 hk
    exact e.ap j k l1 m1 u2 u3 hjk h1 h2
  · by_cases z : b = a
    · subst z
      exact ⟨_, upd_same⟩
    · rw [upd_ne z]
      exact e.tr b hb
  · by_cases z : b = a
    · subst z
      exact ⟨_, upd_same⟩
    · exact ⟨u, by rw [upd_ne z]; exact hb⟩
end
section
variable {K : PySem.W.Frag} {W : WX} {σ : St} {H : Hp}
/-- x.append(e), x a slot -/
def apM (i : Nat) (f : Mo Hd) : Mo Hd := fun ρ => match ρ[i]? with
  | some (.own _ (.lst _)) => Mo.bind f (fun h => Mo.bind (freeze h) fun d ρ => match ρ[i]? with
    | some (.own l (.lst ds)) => match decide (ds.length < sizeLine) with
      | true => some (.ok (.val .non) (ρ.set i (.own l (.lst (ds ++ [d])))))
      | false => none
    | _ => none) ρ
  | _ => none
theorem own_at {R : RC} {ρ : En} (e : EnR R H ρ σ) {i : Nat} {l : Bool} {ds : List D} (h : ρ[i]? = some (.own l (.lst ds))) : ∃ a xs, σ[i]? = some (some (.ref a)) ∧ H a = some (.lst xs) ∧ DRs R H ds xs := by
  obtain ⟨y, h1, a, rfl, h2, xs, h3, h4⟩ := e.sl i _ h
  exact ⟨a, xs, h1, h3, h4⟩
theorem apM_ok {i : Nat} {f : Mo Hd} {Q : VK} (h : tA K W (apM i f) σ H Q) : tBM K "list" rAppend (tVar i) (tCons (tA K W f) tNil) σ H Q := by
  obtain ⟨R, ρ, rr, hk, e, hf, q⟩ := h
  unfold apM at hf
  split at hf
  · rename_i l0 ds0 h0
    obtain ⟨a, xs0, hs, ha, _⟩ := own_at e h0
    refine ⟨_, hs, .inl ⟨rfl, xs0, .inl (.inl ha)⟩, bindX hk e hf q fun R1 ρ1 x H1 b n1 hr h2 q1 => ?_⟩
    rcases bind_ok h2 with ⟨d, ρ3, h5, h6⟩ | ⟨x, ρ3, h5, _⟩
    · obtain ⟨R2, n2, dr⟩ := freeze_ok n1.en hr h5
      split at h6
      · rename_i l ds hi
        by_cases hz : ds.length < sizeLine
        · simp [hz] at h6
          subst h6
          obtain ⟨a', xs, hs', ha', rs⟩ := own_at n2.en hi
          rw [hs] at hs'
          cases hs'
          refine ⟨a, xs, x, rfl, rfl, ha', by rw [← rs.len]; exact hz, ?_⟩
          have n3 := own_upd n2.en hi hs (rs.append (.cons dr .nil))
          exact q1 R2 _ _ (n2.trans n3) .non
        · simp [hz] at h6
      · cases h6
    · exact (freeze_no h5).elim
  · cases hf
/-- x[k] = e, x a slot: e first -/
def setM (i : Nat) (f g : Mo Hd) : Ms := Mo.bind f fun h => Mo.bind (freeze h) fun d ρ => match ρ[i]? with
  | some (.own _ (.lst _)) => Mo.bind g (fun h2 => Mo.bind (deref h2) fun k ρ => match ρ[i]?, k with
    | some (.own l (.lst ds)), .int k => match ixN ds.length k with
      | some j => some (.ok .nx (ρ.set i (.own l (.lst (ds.set j d)))))
      | none => none
    | _, _ => none) ρ
  | _ => none
theorem setM_ok {i : Nat} {f g : Mo Hd} {D : Ends} (h : tS K W (setM i f g) D σ H) : tAsg (tA K W f) (gSub (tVar i) (tA K W g) rSetL) D σ H := by
  obtain ⟨R, ρ, rr, hk, e, hf, q⟩ := h
  rcases bind_ok hf with ⟨a, ρ1, h1, h2⟩ | ⟨x, ρ1, h1, rfl⟩
  · refine ⟨R, ρ, _, hk, e, h1, fun R1 x H1 n1 r1 => ?_⟩
    rcases bind_ok h2 with ⟨d, ρ2, h3, h4⟩ | ⟨x, ρ2, h3, _⟩
    · obtain ⟨R2, n2, dr⟩ := freeze_ok n1.en r1 h3
      split at h4
      · rename_i l0 ds0 h0
        obtain ⟨p, xs0, hs, _, _⟩ := own_at n2.en h0
        refine ⟨_, hs, ?_⟩
        have nn := n1.trans n2
        rcases bind_ok h4 with ⟨b, ρ3, h5, h6⟩ | ⟨x', ρ3, h5, rfl⟩
        · refine ⟨R2, ρ2, _, nn.k.trans hk, n2.en, h5, fun R3 y H3 n3 r3 => ?_⟩
          obtain ⟨k, h7, h8⟩ := deref_ok h6
          split at h8
          · rename_i l ds k hi
            split at h8
            · rename_i j hj
              cases h8
              obtain ⟨p', xs, hs', hp, rs⟩ := own_at n3.en hi
              rw [hs] at hs'
              cases hs'
              have hy := (deref1_ok n3.en r3 h7).int
              refine ⟨p, xs, k, j, rfl, hy, hp, by rw [← rs.len]; exact hj, ?_⟩
              have n4 := own_upd n3.en hi hs (rs.set (dr.nx n2.en n3) j)
              exact q R3 σ _ ((nn.trans n3).trans n4).ns
            · cases h8
          · cases h8
        · exact ⟨R2, ρ2, _, nn.k.trans hk, n2.en, h5, fun R' H' cls dd n er => q R' σ H' cls dd (nn.trans n).ns er⟩
      · cases h4
    · exact (freeze_no h3).elim
  · exact ⟨R, ρ, _, hk, e, h1, fun R' H' cls d n er => q R' σ H' cls d n.ns er⟩
/-- x op= e, ints -/
def augM (i : Nat) (op : Int → Int → Int) (f : Mo Hd) : Ms := fun ρ => match ρ[i]? with
  | some (.v (.int a)) => Mo.bind f (fun h => Mo.bind (deref h) fun d ρ => match d with
    | .int b => some (.ok .nx (ρ.set i (.v (.int (op a b)))))
    | _ => none) ρ
  | _ => none
theorem augM_ok {i : Nat} {op : Int → Int → Int} {f : Mo Hd} {D : Ends} (h : tS K W (augM i op f) D σ H) : tAug i (tA K W f) (ipI op) D σ H := by
  obtain ⟨R, ρ, rr, hk, e, hf, q⟩ := h
  unfold augM at hf
  split at hf
  · rename_i a h0
    obtain ⟨y, h1, x, rfl, dr⟩ := e.sl i _ h0
    cases dr
    refine ⟨_, h1, ?_⟩
    rcases bind_ok hf with ⟨b, ρ1, h2, h3⟩ | ⟨x, ρ1, h2, rfl⟩
    · refine ⟨R, ρ, _, hk, e, h2, fun R1 y H1 n1 r1 => ?_⟩
      obtain ⟨d, h4, h5⟩ := deref_ok h3
      cases d with
      | int b =>
        cases h5
        refine ⟨a, b, rfl, (deref1_ok n1.en r1 h4).int, ?_⟩
        exact q R1 _ H1 (Ns.trans e n1.ns (setv_ns n1.en (.int _) i))
      | _ => cases h5
    · exact ⟨R, ρ, _, hk, e, h2, fun R' H' cls d n er => q R' σ H' cls d n.ns er⟩
  · cases hf
end

/-! ### a comprehension -/
def wipeE (ρ : En) : List Nat → En
  | [] => ρ
  | v :: vs => (wipeE ρ vs).set v .no
theorem wipeE_get {ρ : En} {i : Nat} {s : Sl} : ∀ {vs : List Nat}, (wipeE ρ vs)[i]? = some s → s = .no ∨ (i ∉ vs ∧ ρ[i]? = some s)
  | [], h => .inr ⟨by simp, h⟩
  | v :: vs, h => by
    unfold wipeE at h
    rcases set_get h with ⟨_, rfl, _⟩ | ⟨hne, h⟩
    · exact .inl rfl
    · rcases wipeE_get h with h | ⟨h1, h2⟩
      · exact .inl h
      · exact .inr ⟨by simp only [List.mem_cons, not_or]; exact ⟨fun z => hne z.symm, h1⟩, h2⟩
theorem wipeE_len {ρ : En} : ∀ {vs : List Nat}, (wipeE ρ vs).length = ρ.length
  | [] => rfl
  | v :: vs => by simp [wipeE, wipeE_len (vs := vs)]
theorem wipe_get {σ : St} {i : Nat} : ∀ {vs : List Nat}, i ∉ vs → (wipe σ vs)[i]? = σ[i]?
  | [], _ => rfl
  | v :: vs, h => by
    simp only [List.mem_cons, not_or] at h
    unfold wipe
    rw [List.getElem?_set_ne fun z => h.1 z.symm, wipe_get h.2]
theorem wipe_len {σ : St} {vs : List Nat} : (wipe σ vs).length = σ.length := wipe_length σ vs
theorem wipe_nz {R : RC} {H : Hp} {ρ : En} {σ : St} (e : EnR R H ρ σ) (vs : List Nat) : Nz R ρ σ H R (wipeE ρ vs) (wipe σ vs) H := by
  have ow : ∀ (i : Nat) (l : Bool) (o : Ow), (wipeE ρ vs)[i]? = some (.own l o) → ρ[i]? = some (.own l o) ∧ (wipe σ vs)[i]? = σ[i]? := fun i l o h => by
    rcases wipeE_get h with h | ⟨h1, h2⟩
    · cases h
    · exact ⟨h2, wipe_get h1⟩
  refine ⟨⟨by rw [wipeE_len, wipe_len]; exact e.len, fun i s h => ?_, fun i j l m o u hij hi hj => ?_, e.tr⟩, rfl, fun _ h => .inl h, fun _ h => .inl h, Keep.refl, fun i l o h => ⟨⟨o, (ow i l o h).1⟩, (ow i l o h).2⟩, fun _ o h => ⟨o, h⟩⟩
  · have hi : i < (wipe σ vs).length := by
      rw [wipe_len, ← e.len, ← wipeE_len (vs := vs)]
      exact (List.getElem?_eq_some_iff.mp h).1
    rcases wipeE_get h with rfl | ⟨h1, h2⟩
    · exact ⟨_, List.getElem?_eq_getElem hi, trivial⟩
    · obtain ⟨y, h3, h4⟩ := e.sl i s h2
      exact ⟨y, by rw [wipe_get h1]; exact h3, h4⟩
  · obtain ⟨h1, h2⟩ := ow i l o hi
    obtain ⟨h3, h4⟩ := ow j m u hj
    rw [h2, h4]
    exact e.ap i j l m o u hij h1 h3
/-- none of them owns -/
def plainAt (ρ : En) (vs : List Nat) : Bool := vs.all fun i => match ρ[i]? with
  | some (.own _ _) => false
  | _ => true
/-- the slots vs as they were in ρ0 -/
def unwipe (ρ ρ0 : En) : List Nat → En
  | [] => ρ
  | v :: vs => match ρ0[v]? with
    | some s => (unwipe ρ ρ0 vs).set v s
    | none => unwipe ρ ρ0 vs
theorem unwipe_len {ρ ρ0 : En} : ∀ {vs : List Nat}, (unwipe ρ ρ0 vs).length = ρ.length
  | [] => rfl
  | v :: vs => by
    unfold unwipe
    cases ρ0[v]? with
    | none => exact unwipe_len
    | some s => simp [unwipe_len (vs := vs)]
theorem unwipe_get {ρ ρ0 : En} (hl : ρ.length = ρ0.length) {i : Nat} {s : Sl} : ∀ {vs : List Nat}, (unwipe ρ ρ0 vs)[i]? = some s → (i ∈ vs ∧ ρ0[i]? = some s) ∨ (i ∉ vs ∧ ρ[i]? = some s)
  | [], h => .inr ⟨by simp, h⟩
  | v :: vs, h => by
    unfold unwipe at h
    cases hv : ρ0[v]? with
    | none =>
      simp only [hv] at h
      have hne : i ≠ v := by
        rintro rfl
        have h1 := (List.getElem?_eq_some_iff.mp h).1
        rw [unwipe_len, hl] at h1
        rw [List.getElem?_eq_getElem h1] at hv
        cases hv
      rcases unwipe_get hl h with ⟨h1, h2⟩ | ⟨h1, h2⟩
      · exact .inl ⟨List.mem_cons_of_mem _ h1, h2⟩
      · exact .inr ⟨by simp only [List.mem_cons, not_or]; exact ⟨hne, h1⟩, h2⟩
    | some s0 =>
      simp only [hv] at h
      rcases set_get h with ⟨rfl, rfl, _⟩ | ⟨hne, h⟩
      · exact .inl ⟨List.mem_cons_self, hv⟩
      · rcases unwipe_get hl h with ⟨h1, h2⟩ | ⟨h1, h2⟩
        · exact .inl ⟨List.mem_cons_of_mem _ h1, h2⟩
        · exact .inr ⟨by simp only [List.mem_cons, not_or]; exact ⟨fun z => hne z.symm, h1⟩, h2⟩
/-- behind a block -/
theorem unwipe_ny {R R' : RC} {H H' : Hp} {ρ ρ' : En} {σ : St} {vs : List Nat} (e : EnR R H ρ σ) (hp : plainAt ρ vs = true) (n : Nz R (wipeE ρ vs) (wipe σ vs) H R' ρ' (wipe σ vs) H') : Ny R ρ σ H R' (unwipe ρ' ρ vs) H' := by
  have hl : ρ'.length = ρ.length := by
    rw [n.en.len, wipe_len]
    exact e.len.symm
  have pl : ∀ {i : Nat} {l : Bool} {o : Ow}, i ∈ vs → ρ[i]? ≠ some (.own l o) := fun {i l o} h1 h2 => by
    have := List.all_eq_true.mp hp i h1
    simp [h2] at this
  have ow : ∀ (i : Nat) (l : Bool) (o : Ow), (unwipe ρ' ρ vs)[i]? = some (.own l o) → i ∉ vs ∧ ρ'[i]? = some (.own l o) := fun i l o h => by
    rcases unwipe_get hl h with ⟨h1, h2⟩ | h
    · exact absurd h2 (pl h1)
    · exact h
  have up : ∀ a, Owns (wipeE ρ vs) (wipe σ vs) a → Owns ρ σ a := fun a h => (wipe_nz e vs).owns h
  have t : To R H R' H' := ⟨n.k, n.m, n.h.mono fun a h => e.own_m (up a h)⟩
  refine ⟨⟨by rw [unwipe_len, hl]; exact e.len, fun i s h => ?_, fun i j l m o u hij hi hj => ?_, n.en.tr⟩, n.k, n.m, fun a h => (n.cov a h).imp_right (up a), n.h.mono up, fun i l o h => ?_, n.al⟩
  · rcases unwipe_get hl h with ⟨h1, h2⟩ | ⟨h1, h2⟩
    · obtain ⟨y, h3, h4⟩ := e.sl i s h2
      refine ⟨y, h3, ?_⟩
      cases s with
      | no => trivial
      | v d =>
        obtain ⟨x, h5, h6⟩ := h4
        exact ⟨x, h5, h6.to t⟩
      | own l o => exact absurd h2 (pl h1)
    · obtain ⟨y, h3, h4⟩ := n.en.sl i s h2
      exact ⟨y, by rw [← wipe_get h1]; exact h3, h4⟩
  · obtain ⟨h1, h2⟩ := ow i l o hi
    obtain ⟨h3, h4⟩ := ow j m u hj
    rw [← wipe_get h1, ← wipe_get h3]
    exact n.en.ap i j l m o u hij h2 h4
  · obtain ⟨h1, h2⟩ := ow i l o h
    obtain ⟨⟨u, h3⟩, _⟩ := n.own i l o h2
    rcases wipeE_get h3 with h3 | ⟨_, h3⟩
    · cases h3
    · exact ⟨u, h3⟩
end Mi
set_option Elab.async false
set_option linter.all false
set_option maxRecDepth 100000
set_option maxHeartbeats 2000000
/-! M14: a list comprehension -/
namespace Mi
open PySem L2

def lcL (t : Tg) (own : List Nat) (c : Mo Bool) (e : Mo Hd) : List D → Nat → En → Option (List D × En)
  | [], _, ρ => some ([], ρ)
  | d :: ds, n, ρ => match setT t d ρ with
    | none => none
    | some ρ1 => match c ρ1 with
      | some (.ok false ρ2) => lcL t own c e ds n (wipeE ρ2 own)
      | some (.ok true ρ2) => match Mo.bind e freeze ρ2 with
        | some (.ok v ρ3) => match decide (n < sizeLine), lcL t own c e ds (n + 1) (wipeE ρ3 own) with
          | true, some (vs, ρ') => some (v :: vs, ρ')
          | _, _ => none
        | _ => none
      | _ => none
def lcM (it : Mo (List D)) (t : Tg) (own : List Nat) (c : Mo Bool) (e : Mo Hd) : Mo Fr := Mo.bind it fun ds ρ => match plainAt ρ own, lcL t own c e ds 0 (wipeE ρ own) with
  | true, some (vs, ρ') => some (.ok (.new (.lst vs)) (unwipe ρ' ρ own))
  | _, _ => none
def W0 : WX := fun _ _ _ _ => False
theorem set_wipe {σ : St} {v : Nat} : ∀ {vs : List Nat}, wipe (σ.set v none) vs = (wipe σ vs).set v none
  | [] => rfl
  | u :: us => by
    unfold wipe
    rw [set_wipe]
    by_cases h : u = v
    · rw [h]
    · exact List.set_comm _ _ (Ne.symm h)
theorem wipe_idem {σ : St} : ∀ {vs : List Nat}, wipe (wipe σ vs) vs = wipe σ vs
  | [] => rfl
  | v :: vs => by
    show (wipe ((wipe σ vs).set v none) vs).set v none = (wipe σ vs).set v none
    rw [set_wipe, wipe_idem, List.set_set]
theorem side_upd {R R' : RC} {ρ ρ' : En} {σ σ' : St} {H H' : Hp} {a : Addr} {o : HO} (n : Nz R ρ σ H R' ρ' σ' H') (ha : H a = none) (hm : R'.M a) (no : ¬ Owns ρ' σ' a) : Nz R ρ σ H R' ρ' σ' (upd H' a o) := by
  have kp : Keep R'.M H' (upd H' a o) := fun b u hb hn => by
    rw [upd_ne fun z => hn (by rw [z]; exact hm)]
    exact hb
  have t : To R' H' R' (upd H' a o) := ⟨rfl, fun _ h => .inl h, kp⟩
  refine ⟨⟨n.en.len, fun i s h => ?_, n.en.ap, fun b hb => ?_⟩, n.k, n.m, n.cov, fun b u hb hn => ?_, n.own, fun b u hb => ?_⟩
  · obtain ⟨y, h1, h2⟩ := n.en.sl i s h
    refine ⟨y, h1, ?_⟩
    cases s with
    | no => trivial
    | v d =>
      obtain ⟨x, h3, h4⟩ := h2
      exact ⟨x, h3, h4.to t⟩
    | own l o1 =>
      obtain ⟨b, h3, h4⟩ := h2
      subst h3
      exact ⟨b, rfl, h4.to t h4.m (upd_ne fun z => no (by rw [← z]; exact ⟨i, l, o1, h, h1⟩))⟩
  · by_cases z : b = a
    · subst z
      exact ⟨_, upd_same⟩
    · rw [upd_ne z]
      exact n.en.tr b hb
  · have z : b ≠ a := by
      rintro rfl
      rw [ha] at hb
      cases hb
    rw [upd_ne z]
    exact n.h b u hb hn
  · obtain ⟨u', h1⟩ := n.al b u hb
    by_cases z : b = a
    · subst z
      exact ⟨_, upd_same⟩
    · exact ⟨u', by rw [upd_ne z]; exact h1⟩
section
variable {K : PySem.W.Frag} {W : WX} {σ : St} {H : Hp}
theorem lcM_ok {it : Mo (List D)} {t : Tg} {own : List Nat} {c : Mo Bool} {e : Mo Hd} {Q : VK} (hts : ∀ i ∈ t.sl, i ∈ own) (h : tN K W (lcM it t own c e) σ H Q) : tLc (iD K W it) (gT K t) (tB K W0 c) (tA K W0 e) own σ H Q := by
  obtain ⟨R, ρ, rr, hk, en, hf, q⟩ := h
  rcases bind_ok hf with ⟨ds, ρ1, h1, h2⟩ | ⟨x, ρ1, h1, rfl⟩
  · refine ⟨R, ρ, _, hk, en, h1, fun R1 J H1 n1 w p hp => ?_⟩
    cases hpl : plainAt ρ1 own with
    | false => simp [hpl] at h2
    | true =>
      cases hlc : lcL t own c e ds 0 (wipeE ρ1 own) with
      | none => simp [hpl, hlc] at h2
      | some z =>
        obtain ⟨vs, ρE⟩ := z
        simp [hpl, hlc] at h2
        subst h2
        obtain ⟨G, Y, wk, hG, hY⟩ := w
        have hk1 := n1.k.trans hk
        have nw := wipe_nz n1.en own
        have e1 := nw.en
        obtain ⟨s1, s2⟩ := new_ny e1 hp (.nil (R := R1) (H := H1))
        refine lc_it wk (Pv := fun i H => ∃ R' ρ' acc accV rest, Nz R1 (wipeE ρ1 own) (wipe σ own) H1 R' ρ' (wipe σ own) H ∧ R'.M p ∧ ¬ Owns ρ' (wipe σ own) p ∧ H p = some (.lst accV) ∧ DRs R' H acc accV ∧ lcL t own c e (ds.drop i) acc.length ρ' = some (rest, ρE) ∧ acc ++ rest = vs)
          ⟨_, _, [], [], vs, s1.nz, .inr rfl, fun z => e1.fresh hp (e1.own_m z), upd_same, .nil, hlc, rfl⟩
          (fun i H' hi ⟨R', ρ', acc, accV, rest, n, _⟩ => hG R' H' (n.ns.lt e1)) (fun i x H' H2 hi ⟨R', ρ', acc, accV, rest, n, hm, no, ha, hr, hl, hv⟩ y => ?_) fun H' ⟨R', ρ', acc, accV, rest, n, hm, no, ha, hr, hl, hv⟩ => ?_
        · obtain ⟨ex, d, hd, dr⟩ := hY i R' H' x H2 hi (n.ns.lt e1) y
          have hcut : ds.drop i = d :: ds.drop (i + 1) := by
            obtain ⟨hl, e1⟩ := List.getElem?_eq_some_iff.mp hd
            rw [List.drop_eq_getElem_cons hl, e1]
          rw [hcut] at hl
          have en2 := n.en.ex ex
          have n0 : Nz R1 (wipeE ρ1 own) (wipe σ own) H1 R' ρ' (wipe σ own) H2 := n.trans (Nx.ex n.en ex).ny.nz
          have ha2 : H2 p = some (.lst accV) := ex p _ ha
          have hr2 : DRs R' H2 acc accV := hr.to (To.ex ex)
          unfold lcL at hl
          cases h3 : setT t d ρ' with
          | none => simp [h3] at hl
          | some ρ2 =>
            simp only [h3] at hl
            refine ⟨R', ρ', d, ρ2, n0.k.trans hk1, en2, dr, h3, fun σ2 m so => ?_⟩
            have hσ : wipe σ2 own = wipe σ own := by rw [so own hts, wipe_idem]
            refine ⟨hσ, ?_⟩
            -- a step's end
            have step : ∀ {R4 : RC} {ρ4 : En} {H4 : Hp}, Nz R' ρ2 σ2 H2 R4 ρ4 σ2 H4 → Nz R' ρ' (wipe σ own) H2 R4 (wipeE ρ4 own) (wipe σ own) H4 := fun {R4 ρ4 H4} n4 => by
              have := (m.trans n4).trans (wipe_nz n4.en own)
              rwa [hσ] at this
            have kept : ∀ {R4 : RC} {ρ5 : En} {H4 : Hp}, Nz R' ρ' (wipe σ own) H2 R4 ρ5 (wipe σ own) H4 → R4.M p ∧ ¬ Owns ρ5 (wipe σ own) p ∧ H4 p = some (.lst accV) ∧ DRs R4 H4 acc accV := fun {R4 ρ5 H4} n5 =>
              ⟨(n5.cov p hm).resolve_right no, fun z => no (n5.owns z), n5.h p _ ha2 no, hr2.to (n5.ns.to en2)⟩
            cases h4 : c ρ2 with
            | none => simp [h4] at hl
            | some rc =>
              cases rc with
              | ex x ρ3 => simp [h4] at hl
              | ok b ρ3 =>
                refine ⟨R', ρ2, _, n0.k.trans hk1, m.en, h4, fun R3 b' H3 n3 hb => ?_⟩
                subst hb
                cases b with
                | false =>
                  simp only [h4] at hl
                  have n5 := step n3.ny.nz
                  obtain ⟨k1, k2, k3, k4⟩ := kept n5
                  exact ⟨R3, _, acc, accV, rest, n0.trans n5, k1, k2, k3, k4, hl, hv⟩
                | true =>
                  simp only [h4] at hl
                  cases h5 : Mo.bind e freeze ρ3 with
                  | none => simp [h5] at hl
                  | some re =>
                    cases re with
                    | ex x ρ4 => simp [h5] at hl
                    | ok v ρ4 =>
                      simp only [h5] at hl
                      by_cases hz : acc.length < sizeLine
                      · cases h6 : lcL t own c e (ds.drop (i + 1)) (acc.length + 1) (wipeE ρ4 own) with
                        | none => simp [hz, h6] at hl
                        | some zz =>
                          obtain ⟨vs', ρ''⟩ := zz
                          simp [hz, h6] at hl
                          obtain ⟨hl1, hl2⟩ := hl
                          subst hl1; subst hl2
                          refine tD_of ⟨R3, ρ3, _, (n3.k.trans n0.k).trans hk1, n3.en, h5, fun R4 y H4 n4 dr4 => ?_⟩
                          have n5 := step (n3.ny.nz.trans n4.ny.nz)
                          obtain ⟨k1, k2, k3, k4⟩ := kept n5
                          have t : To R4 H4 R4 (upd H4 p (.lst (accV ++ [y]))) := ⟨rfl, fun _ h => .inl h, fun b u hb hn => by
                            rw [upd_ne fun z => hn (by rw [z]; exact k1)]
                            exact hb⟩
                          refine ⟨accV, k3, by rw [← k4.len]; exact hz, R4, _, acc ++ [v], accV ++ [y], vs', side_upd (n0.trans n5) hp k1 k2, k1, k2, upd_same, (k4.append (.cons dr4 .nil)).to t, ?_, ?_⟩
                          · rw [List.length_append]
                            exact h6
                          · rw [List.append_assoc]
                            exact hv
                      · simp [hz] at hl
        · rw [List.drop_length] at hl
          cases hl
          rw [List.append_nil] at hv
          subst hv
          have ny := unwipe_ny n1.en hpl n
          refine q _ _ H' (n1.ny.trans ny) ⟨p, rfl, ⟨hm, accV, ha, hr⟩, fun z => ?_, none_of n1.al hp⟩
          exact n1.en.fresh hp (n1.en.own_m (ny.owns z))
  · exact ⟨R, ρ, _, hk, en, h1, q⟩
end
end Mi
set_option Elab.async false
set_option linter.all false
set_option maxRecDepth 100000
set_option maxHeartbeats 2000000
/-! M22: slices by a step -/
namespace Mi
open PySem PySem.Spec L2
open PyProof.Rows hiding St

def pickD {α : Type} (ds : List α) (is : List Nat) : List α := is.filterMap fun i => ds[i]?
theorem DRs.pick {R : RC} {H : Hp} {ds : List D} {xs : List V} (r : DRs R H ds xs) : ∀ is : List Nat, DRs R H (pickD ds is) (pickD xs is)
  | [] => .nil
  | i :: is => by
    unfold pickD
    rw [List.filterMap_cons, List.filterMap_cons]
    cases h : ds[i]? with
    | none =>
      have : xs[i]? = none := by
        rw [List.getElem?_eq_none_iff] at h ⊢
        rw [← r.len]
        exact h
      rw [this]
      exact DRs.pick r is
    | some d =>
      obtain ⟨x, h1, h2⟩ := r.get h
      rw [h1]
      exact .cons h2 (DRs.pick r is)
theorem vals_pick {xs : List V} {us : List Value} (r : Vals xs us) : ∀ is : List Nat, Vals (pickD xs is) (pickD us is)
  | [] => .nil
  | i :: is => by
    unfold pickD
    rw [List.filterMap_cons, List.filterMap_cons]
    cases h : xs[i]? with
    | none =>
      have : us[i]? = none := by
        rw [List.getElem?_eq_none_iff] at h ⊢
        rw [← r.length]
        exact h
      rw [this]
      exact vals_pick r is
    | some d =>
      obtain ⟨x, h1, h2⟩ := r.get h
      rw [h1]
      exact .cons h2 (vals_pick r is)
/-- the places of [::k] among n: of a list, of a tuple -/
def lsIx (n : Nat) (k : Int) : List Nat := sliceRange (sliceBounds none none (some k) n).1 (sliceBounds none none (some k) n).2.1 (sliceBounds none none (some k) n).2.2
def tpLo (n : Nat) (k : Int) : Int := (Builtin.Slice.sliceAdjust none none k n).1
def tpN (n : Nat) (k : Int) : Nat := Builtin.Slice.slicePlaces (Builtin.Slice.sliceAdjust none none k n).1 (Builtin.Slice.sliceAdjust none none k n).2 k
def tpIx (n : Nat) (k : Int) : List Nat := (List.range (tpN n k)).map fun (m : Nat) => (tpLo n k + (m : Int) * k).toNat
section
variable {prog : Program} {w : World} {A : Around} {E : Value → Shared → Prop} {s : Shared}
theorem applied_step {sl : Addr} {k : Int} {u : Tok} {n : Nat} {Q : Int × Int × Nat → Shared → Prop} (hs : s.heap.IsSliceOf sl .none .none (.int k u)) (hk : k ≠ 0) (h : Q (tpLo n k, k, tpN n k) s) :
    wpAny (model prog w) A (Builtin.Slice.sliceApplied (.ref sl) (pure (n : Int))) Q E s := by
  obtain ⟨os, hos, hcs, hds⟩ := id hs
  unfold Builtin.Slice.sliceApplied Builtin.Slice.sliceFields
  refine wpAny_bind (wpAny_bind (wpAny_field hos hds (x := .none) rfl (wpAny_bind (wpAny_field hos hds (x := .none) rfl (wpAny_bind (wpAny_field hos hds (x := .int k u) rfl (wpAny_pure ?_)))))))
  refine wpAny_bind (slicePart_int ?_)
  show wpAny _ _ (if (k == 0) = true then _ else _) _ _ s
  rw [if_neg (by simpa using hk)]
  refine wpAny_bind (slicePart_none (wpAny_bind (slicePart_none (wpAny_bind (wpAny_pure ?_)))))
  exact wpAny_pure h
theorem tup_step {t sl : Addr} {items : Array Value} {k : Int} {u : Tok} {Q : Value → Shared → Prop} (ht : IsTup s.heap t items) (hs : s.heap.IsSliceOf sl .none .none (.int k u)) (hk : k ≠ 0) (hk1 : k ≠ 1)
    (h : Q (.ref s.heap.objs.size) { s with heap := s.heap.push { cls := .type "tuple", data := .seq (pickD items.toList (tpIx items.size k)).toArray } }) (hz : (pickD items.toList (tpIx items.size k)).length ≤ sizeLine) : wpAny (model prog w) A (getItem (.ref t) (.ref sl)) Q E s := by
  have hz2 : sizeOk (.seq (pickD items.toList (tpIx items.size k)).toArray) := by
    show (pickD items.toList (tpIx items.size k)).toArray.size ≤ sizeLine
    rw [List.size_toArray]
    exact hz
  obtain ⟨os, hos, hcs, hds⟩ := id hs
  have ty : s.TypeIs (.ref sl) "slice" := ⟨os, hos, hcs⟩
  unfold getItem
  try with_reducible refine wpAny_holding ?_
  first | refine wpAny_bind (wpAny_pure ?_) | skip
  refine wpAny_bind (wpAny_sequenceKey ht.typeIs (by decide) ?_)
  refine wpAny_bind (wpAny_callSpecial?_slot (name := Str.ofString "__getitem__") ht.typeIs PyProof.Rows.slot_tuple_getitem
    (wpAny_call_entry PyProof.Rows.slot_tuple_getitem ht.typeIs entry_tuple_getitem ?_ (args_tuple_getitem _ _)))
  show wpAny _ _ (Builtin.Tuple.tupleItemsOf (.ref t) >>= _) _ _ s
  refine wpAny_bind (tupleItemsOf_ ht ?_)
  refine wpAny_bind (wpAny_typeOf ty ?_)
  rw [if_pos (by decide)]
  refine wpAny_bind (applied_step hs hk ?_)
  have no : ¬ ((tpLo items.size k == 0 && k == 1 && tpN items.size k == items.size) = true) := by
    intro q
    rw [Bool.and_eq_true, Bool.and_eq_true] at q
    exact hk1 (eq_of_beq q.1.2)
  show wpAny _ _ (if (tpLo items.size k == 0 && k == 1 && tpN items.size k == items.size) = true then _ else _) _ _ s
  rw [if_neg no]
  have e : ((List.range (tpN items.size k)).filterMap fun (m : Nat) => items[(tpLo items.size k + (m : Int) * k).toNat]?).toArray = (pickD items.toList (tpIx items.size k)).toArray := by
    unfold pickD tpIx
    rw [List.filterMap_map]
    congr 2
    funext m
    simp
  rw [e]
  first
    | exact wpAny_bind (m := Builtin.Tuple.tupleExact _) (wpAny_newObj_type (wpAny_pure ⟨_, rfl, wpAny_pure h⟩) hz2)
    | exact wpAny_bind (m := Builtin.Tuple.tupleExact _) (wpAny_newObj_type (wpAny_bind (wpAny_pure (wpAny_pure ⟨_, rfl, wpAny_pure h⟩))) hz2)
    | exact wpAny_bind (wpAny_bind (m := Builtin.Tuple.tupleExact _) (wpAny_newObj_type (wpAny_pure (wpAny_pure ⟨_, rfl, wpAny_pure h⟩)) hz2))
    | exact wpAny_bind (wpAny_bind (m := Builtin.Tuple.tupleExact _) (wpAny_newObj_type (wpAny_pure ⟨_, rfl, wpAny_pure h⟩) hz2))
end
def rStp (K : PySem.W.Frag) : R2 := fun x y H Q => ∃ a k xs, x = .ref a ∧ y = .int k ∧ k ≠ 0 ∧
  ((SqL K H a xs ∧ ∀ p, H p = none → Q (.ref p) (upd H p (.lst (pickD xs (lsIx xs.length k))))) ∨ (SqT K H a xs ∧ k ≠ 1 ∧ (pickD xs (tpIx xs.length k)).length ≤ sizeLine ∧ ∀ p, H p = none → Q (.ref p) (upd H p (.tup (pickD xs (tpIx xs.length k))))))
theorem pick_len {xs : List V} {us : List Value} (r : Vals xs us) (is : List Nat) : (pickD xs is).length = (pickD us is).length := (vals_pick r is).length
/-- a[::k] -/
theorem pe_stp {X : Cx} {e k : Expr} {te tk : TE} {p2 pos : Pos} (he : PE X e te) (hk : PE X k tk) : PE X (.Subscript e (.Slice none none (some k) p2) pos) (tOp (rStp X.K) te tk) := by
  refine ⟨fun pins s σ H Q I h => ?_⟩
  refine Subscript_ (thn (he.run pins s σ H _ I h) fun v s1 ⟨x, H1, I1, r1, q1⟩ => ?_)
  refine wpAny_Slice ?_
  rw [evalPart_none]
  refine wpAny_pure ?_
  refine wpAny_pure ?_
  rw [evalPart_some]
  refine thn (hk.run pins s1 σ H1 _ I1 q1) fun u s2 ⟨y, H2, I2, r2, a, i, xs, e1, e2, hi, q⟩ => ?_
  subst e1; subst e2
  obtain ⟨t, rfl⟩ := r2
  cases r1
  have I3 : L2.Inv X pins σ H2 { s2 with heap := s2.heap.push { cls := .type "slice", data := .fields #[.none, .none, .int i t] } } := I2.kept (t' := s2.toks) fun b ob q => Heap.get?_push_of_some _ q
  have hs : (s2.heap.push { cls := .type "slice", data := .fields #[.none, .none, .int i t] }).IsSliceOf s2.heap.objs.size .none .none (.int i t) := Heap.IsSliceOf.new ..
  rcases q with ⟨hx, q⟩ | ⟨hx, hi1, hz1, q⟩
  · obtain ⟨its, r, ht, hz⟩ := I3.list hx
    have hlen := r.length
    refine tail_any (ops := [.ref a, .ref s2.heap.objs.size]) ht.isList.typeIs slot_list_getitem.lookup ?_ (by with_unfolding_all rfl)
    refine wpAny_getItem_list_slice ht.isList hs .none .none (.int i t) (by simpa using hi) ?_ (by rw [List.size_toArray] <;> omega)
    have e : slicePick its.toArray none none (some i) = (pickD its (lsIx its.length i)).toArray := by
      unfold slicePick pickD lsIx
      simp
    rw [e, ← hlen]
    have hl2 : (pickD xs (lsIx xs.length i)).length ≤ xs.length := by
      rw [pick_len r]
      have := slicePick_size_le its.toArray none none (some i)
      rw [e, List.size_toArray, List.size_toArray] at this
      rw [hlen]
      exact this
    exact ⟨.ref _, _, I3.laid (t' := s2.toks) (o := .lst (pickD xs (lsIx xs.length i))) (fun b ob q => Heap.get?_push_of_some _ q) (Nat.le_refl _) ⟨Nat.le_trans hl2 hz, _, 0, vals_pick r _, Heap.get?_push_size _ rfl⟩, rfl, q _ (I3.hok.fresh (Nat.le_refl _))⟩
  · obtain ⟨its, r, ht, hz⟩ := I3.tuple hx
    have hlen : its.toArray.size = xs.length := by rw [List.size_toArray]; exact r.length.symm
    refine tail_any (ops := [.ref a, .ref s2.heap.objs.size]) ht.typeIs PyProof.Rows.slot_tuple_getitem.lookup ?_ (by with_unfolding_all rfl)
    refine tup_step ht hs hi hi1 ?_ ?_
    · rw [hlen]
      exact ⟨.ref _, _, I3.laid (t' := s2.toks) (o := .tup (pickD xs (tpIx xs.length i))) (fun b ob q => Heap.get?_push_of_some _ q) (Nat.le_refl _) ⟨hz1, _, vals_pick r _, IsTup.new _ _⟩, rfl, q _ (I3.hok.fresh (Nat.le_refl _))⟩
    · rw [hlen, List.toList_toArray, ← pick_len r]
      exact hz1
/-- a[::k] -/
def stpD : D → D → Option D
  | .lst ds, .int k => if k ≠ 0 then some (.lst (pickD ds (lsIx ds.length k))) else none
  | .tup ds, .int k => if k ≠ 0 ∧ k ≠ 1 ∧ (pickD ds (tpIx ds.length k)).length ≤ sizeLine then some (.tup (pickD ds (tpIx ds.length k))) else none
  | _, _ => none
theorem stpD_ok {K : PySem.W.Frag} : OpS K (rStp K) stpD := by
  intro R H x y a b d Q hk tr ra rb e q
  unfold stpD at e
  split at e
  · split at e
    · rename_i hi
      cases e
      obtain ⟨p, xs, rfl, h1, r1⟩ := ra.lst
      refine ⟨p, _, xs, rfl, rb.int, hi, .inl ⟨.inl (.inl h1), fun l hl => ?_⟩⟩
      rw [← r1.len]
      obtain ⟨ex, dr⟩ := new_lst tr hl (r1.pick _)
      exact q _ _ ex dr
    · cases e
  · split at e
    · rename_i hi
      obtain ⟨h0, h1', h2⟩ := hi
      cases e
      obtain ⟨p, xs, rfl, h1, r1⟩ := ra.tup
      refine ⟨p, _, xs, rfl, rb.int, h0, .inr ⟨by rw [← hk]; exact h1.sq, h1', ?_, fun l hl => ?_⟩⟩
      · rw [← r1.len, ← (r1.pick _).len]
        exact h2
      · rw [← r1.len]
        obtain ⟨ex, dr⟩ := new_tup tr hl (r1.pick _)
        exact q _ _ ex dr
    · cases e
  · cases e
end Mi
set_option Elab.async false
set_option linter.all false
set_option maxRecDepth 100000
set_option maxHeartbeats 2000000
/-! M15: the small language, what it says -/
namespace Mi
open PySem L2

/-! ### calls with keywords -/
def appM (f g : Mo (List Hd)) : Mo (List Hd) := Mo.bind f fun a => Mo.bind g fun b => Mo.pure (a ++ b)
theorem HdRs.append {R : RC} {H : Hp} {σ : St} : ∀ {a b : List Hd} {xs ys : List V}, HdRs R H σ a xs → HdRs R H σ b ys → HdRs R H σ (a ++ b) (xs ++ ys)
  | _, _, _, _, .nil, s => s
  | _, _, _, _, .cons r t, s => .cons r (HdRs.append t s)
theorem appM_ok {K : PySem.W.Frag} {W : WX} {f g : Mo (List Hd)} {σ : St} {H : Hp} {Q : List V → Hp → Prop} (h : tAs K W (appM f g) σ H Q) : tAs K W f σ H fun xs H1 => tAs K W g σ H1 fun zs H2 => Q (xs ++ zs) H2 := by
  obtain ⟨R, ρ, r, hk, e, hf, q⟩ := h
  rcases bind_ok hf with ⟨a, ρ1, h1, h2⟩ | ⟨x, ρ1, h1, rfl⟩
  · refine ⟨R, ρ, _, hk, e, h1, fun R1 xs H1 n1 r1 => ?_⟩
    rcases bind_ok h2 with ⟨b, ρ2, h3, h4⟩ | ⟨x, ρ2, h3, rfl⟩
    · cases h4
      refine ⟨R1, ρ1, _, n1.k.trans hk, n1.en, h3, fun R2 zs H2 n2 r2 => q R2 _ H2 (n1.trans n2) ((r1.to (n2.to n1.en)).append r2)⟩
    · exact ⟨R1, ρ1, _, n1.k.trans hk, n1.en, h3, fun R2 H2 cls d n2 r2 => q R2 H2 cls d (n1.trans n2) r2⟩
  · exact ⟨R, ρ, _, hk, e, h1, q⟩
/-- positional values, then keywords in the parameters' order -/
def Bd (K : PySem.W.Frag) (fd : FuncData) (ps : List Str) : Prop := ∀ (s : Shared) (us ws : List Value), K.In s.heap → (us ++ ws).length = ps.length → BindsTo s fd ⟨us, (ps.drop us.length).zip ws⟩ (ps.zip (us ++ ws))
section
variable {X : Cx} {k : Nat} {f : Addr} {fd : FuncData} {ps : List Str} {F : Fn} {W : WX} {x : Str} {p pos : Pos} {e : Expr} {es : List Expr} {kws : List Keyword} {g gk : Mo (List Hd)}
theorem kw_all {env : Env} : ∀ {kws : List Keyword}, (kws.all fun k => k.arg.isSome) = true → (backToKw pos (keywordEach kws env)).all (·.1.isSome) = true ∧ (backToKw pos (keywordEach kws env)).any (·.1.isNone) = false ∧ (backToKw pos (keywordEach kws env)).filterMap (·.1) = kws.filterMap (·.arg)
  | [], _ => ⟨rfl, rfl, rfl⟩
  | ⟨a, v, q⟩ :: kws, h => by
    simp only [List.all_cons, Bool.and_eq_true] at h
    obtain ⟨h1, h2⟩ := h
    obtain ⟨i1, i2, i3⟩ := kw_all (env := env) h2
    obtain ⟨b, hb⟩ := Option.isSome_iff_exists.mp h1
    have hb : a = some b := hb
    subst hb
    refine ⟨?_, ?_, ?_⟩
    · show (true && (backToKw pos (keywordEach kws env)).all (·.1.isSome)) = true
      rw [i1]; rfl
    · show (false || (backToKw pos (keywordEach kws env)).any (·.1.isNone)) = false
      rw [i2]; rfl
    · show b :: (backToKw pos (keywordEach kws env)).filterMap (·.1) = b :: kws.filterMap (·.arg)
      rw [i3]
theorem pe_callK0 (G : FnG X.prog X.w X.K X.mg X.base k f fd ps F) (hr : Room k X.A) (hg : X.A.guards = some []) (tk : Takes X W) (gl : Gl X x) (hm : X.mg x = some (.ref f)) (hk : PySem.W.keepIn X.K (.ref f) = true) (hb : Bd X.K fd ps)
    (hkw : PK X kws (tAs X.K W g)) (hall : (kws.all fun k => k.arg.isSome) = true) (hks : kws.filterMap (·.arg) = ps) (hdb : (x == ("__debug__" : Str)) = false) :
    PE X (.Call (.Name x p) [] kws pos) (tN X.K W (Mo.bind g fun hs => callF F hs)) := by
  refine ⟨fun pins s σ H Q I h => ?_⟩
  have h2 := callF_ok h
  obtain ⟨a1, a2, a3⟩ := kw_all (env := X.env) (pos := pos) hall
  refine wpAny_Call_Name_kw (ld_glob I gl hm ?_ hdb)
  refine PySem.W.callWith_KW0 (h₀ := X.base) I.ok.mod.kin hk a1 (thn (hkw.run pos pins s σ H _ I h2) fun ws s1 ⟨vs, H1, I1, r, q⟩ => ⟨I1.kIn, ?_⟩) (by rw [a2]; rfl)
  rw [a3, hks]
  exact run_fnG (us := []) (ws := ws) G hr hg tk (fun s hK hl => hb s [] ws hK hl) I1 r q
theorem pe_callKs (G : FnG X.prog X.w X.K X.mg X.base k f fd ps F) (hr : Room k X.A) (hg : X.A.guards = some []) (tk : Takes X W) (gl : Gl X x) (hm : X.mg x = some (.ref f)) (hk : PySem.W.keepIn X.K (.ref f) = true) (hb : Bd X.K fd ps)
    (ha : PA X (e :: es) (tAs X.K W g)) (hkw : PK X kws (tAs X.K W gk)) (hall : (kws.all fun k => k.arg.isSome) = true) (hlen : (e :: es).length ≤ ps.length) (hks : kws.filterMap (·.arg) = ps.drop (e :: es).length) (hdb : (x == ("__debug__" : Str)) = false)
    (he : starEach (e :: es) X.env = (false, eval e X.env) :: starEach es X.env) (hpl : (backTo pos (starEach (e :: es) X.env)).any (·.1) = false) (hgl : ∀ ρ hs ρ', g ρ = some (.ok hs ρ') → hs.length = (e :: es).length) :
    PE X (.Call (.Name x p) (e :: es) kws pos) (tN X.K W (Mo.bind (appM g gk) fun hs => callF F hs)) := by
  refine ⟨fun pins s σ H Q I h => ?_⟩
  obtain ⟨R, ρ, r, hk0, e0, hf, q0⟩ := appM_ok (callF_ok h)
  have h2 : tAs X.K W g σ H fun xs H1 => xs.length = (e :: es).length ∧ tAs X.K W gk σ H1 fun zs H2 => spF X.K F (xs ++ zs) H2 Q (fun cls d H' => W cls d σ H') := by
    refine ⟨R, ρ, r, hk0, e0, hf, ?_⟩
    cases r with
    | ok hs ρ' => exact fun R' x H' n rr => ⟨by rw [← rr.len]; exact hgl ρ hs ρ' hf, q0 R' x H' n rr⟩
    | ex x ρ' => exact q0
  obtain ⟨a1, a2, a3⟩ := kw_all (env := X.env) (pos := pos) hall
  refine wpAny_Call_Name_kw (ld_glob I gl hm ?_ hdb)
  refine PySem.W.callWith_KW (h₀ := X.base) I.ok.mod.kin hk a1 (thn (ha.run pos pins s σ H _ I h2) fun us s1 ⟨vs, H1, I1, r, hl, q⟩ => ?_) (by rw [hpl, a2]; rfl) he
  refine thn (hkw.run pos pins s1 σ H1 _ I1 q) fun ws s2 ⟨zs, H2, I2, rz, q2⟩ => ⟨I2.kIn, ?_⟩
  rw [a3, hks]
  have hul : us.length = (e :: es).length := by rw [← r.length]; exact hl
  refine run_fnG (us := us) (ws := us ++ ws) G hr hg tk (fun s hK hl2 => ?_) I2 (r.append rz) q2
  have := hb s us ws hK hl2
  rwa [hul] at this
end

/-! ### operations -/
inductive Bop where
  | add | sub | mul | fdiv | mod | pow | eq | ne | lt | le | gt | ge | is | isn | isin | nin
def Bop.op : Bop → D → D → Option D
  | .add => addD | .sub => subD | .mul => mulD | .fdiv => fdivD | .mod => modD | .pow => powD
  | .eq => fun a b => (eqF 60 a b).map fun e => .bl (if false then !e else e)
  | .ne => fun a b => (eqF 60 a b).map fun e => .bl (if true then !e else e)
  | .lt => ltD | .le => leD | .gt => gtD | .ge => geD | .is => isD false | .isn => isD true | .isin => inD false | .nin => inD true
def Bop.rd (K : PySem.W.Frag) : Bop → R2
  | .add => rAddD K | .sub => rI0 fun i j => .int (i - j) | .mul => rMulD | .fdiv => rI CDivN fun i j => .int (i.fdiv j) | .mod => rI (fun _ j => j ≠ 0) fun i j => .int (i.fmod j) | .pow => rI CPow fun i j => .int (i ^ j.toNat)
  | .eq => rEqF K false | .ne => rEqF K true
  | .lt => rCmpD (fun i j => .bl (decide (i < j))) fun i j => decide (i.cps.toList < j.cps.toList)
  | .le => rCmpD (fun i j => .bl (decide (i ≤ j))) fun i j => !decide (j.cps.toList < i.cps.toList)
  | .gt => rCmpD (fun i j => .bl (decide (j < i))) fun i j => decide (j.cps.toList < i.cps.toList)
  | .ge => rCmpD (fun i j => .bl (decide (j ≤ i))) fun i j => !decide (i.cps.toList < j.cps.toList)
  | .is => rIsD false | .isn => rIsD true | .isin => rInDD K false | .nin => rInDD K true
theorem Bop.ok {K : PySem.W.Frag} : ∀ b : Bop, OpS K (b.rd K) b.op
  | .add => addD_ok | .sub => subD_ok | .mul => mulD_ok | .fdiv => fdivD_ok | .mod => modD_ok | .pow => powD_ok
  | .eq => eqF_op | .ne => eqF_op | .lt => ltD_ok | .le => leD_ok | .gt => gtD_ok | .ge => geD_ok | .is => isD_ok | .isn => isD_ok | .isin => inD_ok | .nin => inD_ok
def binO : Operator → Option Bop
  | .Add => some .add | .Sub => some .sub | .Mult => some .mul | .FloorDiv => some .fdiv | .Mod => some .mod | .Pow => some .pow | _ => none
def cmpO : CmpOp → Option Bop
  | .Eq => some .eq | .NotEq => some .ne | .Lt => some .lt | .LtE => some .le | .Gt => some .gt | .GtE => some .ge | .Is => some .is | .IsNot => some .isn | .In => some .isin | .NotIn => some .nin
theorem binO_ok {X : Cx} {o : Operator} {b : Bop} (h : binO o = some b) : OpR X (binaryOp o) (b.rd X.K) := by
  cases o <;> cases h
  · exact op_addD
  · exact op_sub
  · exact op_mulD
  · exact op_modN
  · exact op_pow
  · exact op_fdivN
theorem cmpO_ok {X : Cx} (hu : X.A.units + 64 < cLine) {o : CmpOp} {b : Bop} (h : cmpO o = some b) : OpR X (compareOp o) (b.rd X.K) := by
  cases o <;> cases h
  · exact op_eqF hu
  · exact op_neF hu
  · exact op_ltD
  · exact op_leD
  · exact op_gtD
  · exact op_geD
  · exact op_isD
  · exact op_isnotD
  · exact op_inDD
  · exact op_notInDD
inductive Bi where
  | len | abs | int | sum | all | any | max | min | str | repr | list | tuple
def Bi.fn : Bi → List D → Option D
  | .len => lenB | .abs => absB | .int => intB | .sum => sumB | .all => allB | .any => anyB | .max => maxB | .min => minB | .str => strB | .repr => reprB | .list => listB | .tuple => tupleB
def biO (x : Str) : Option Bi :=
  if x = "len" then some .len else if x = "abs" then some .abs else if x = "int" then some .int else if x = "sum" then some .sum else if x = "all" then some .all else if x = "any" then some .any else if x = "max" then some .max else if x = "min" then some .min
  else if x = "str" then some .str else if x = "repr" then some .repr else if x = "list" then some .list else if x = "tuple" then some .tuple else none
def tyO (x : Str) : Option Ty :=
  if x = "int" then some .int else if x = "bool" then some .bool else if x = "str" then some .str else if x = "tuple" then some .tuple else if x = "list" then some .list else if x = "dict" then some .dict else none

/-! ### the language -/
mutual
inductive E where
  | var (i : Nat) | con (d : D) | op (o : Bop) (a b : E) | cmp (o : Bop) (a b : E) | chain (o o' : Bop) (a b c : E) | neg (a : E) | not (a : E) | and (a b : E) | or (a b : E) | ite (c a b : E)
  | tup (es : Es) | lst (es : Es) | idx (a b : E) | stp (a b : E) | sli (a : E) (lo hi : Oe) | isi (t : Ty) (a : E) | bi (b : Bi) (es : Es) | join (a b : E) | up (a : E) | app (i : Nat) (a : E) | call (F : Fn) (es ks : Es)
  | lc (it : Ie) (t : Tg) (own : List Nat) (c : Oe) (e : E) | dic
inductive Es where
  | nil | cons (e : E) (es : Es)
inductive Oe where
  | no | so (e : E)
inductive Ie where
  | seq (e : E) | rng1 (es : Es) | rng2 (es : Es) | enum (es : Es) | zip (es : Es)
end
/-- a value, a test, a result -/
structure Sm where
  v : Mo Hd
  b : Mo Bool
  n : Mo Fr
def frzN (f : Mo Hd) : Mo Fr := Mo.bind f fun a => Mo.bind (freeze a) fun d => Mo.pure (.dat d)
def valN (f : Mo Fr) : Mo Hd := Mo.bind f fun fr => Mo.pure (.val fr.toD)
def smV (f : Mo Hd) : Sm := ⟨f, valB f, frzN f⟩
def smB (f : Mo Hd) : Sm := ⟨f, tstB f, frzN f⟩
def smN (f : Mo Fr) : Sm := ⟨valN f, valB (valN f), f⟩
def iteB (c a b : Mo Bool) : Mo Bool := Mo.bind c fun k => match k with
  | true => a
  | false => b
def tupM (g : Mo (List Hd)) : Mo Hd := Mo.bind g fun hs => Mo.bind (freezes hs) fun ds => Mo.bind (Mo.lift (if ds.length ≤ sizeLine then some (D.tup ds) else none)) fun d => Mo.pure (.val d)
def biM (fn : List D → Option D) (g : Mo (List Hd)) : Mo Hd := Mo.bind g fun hs => Mo.bind (derefs hs) fun ds => Mo.bind (Mo.lift (fn ds)) fun d => Mo.pure (.val d)
def consM {α : Type} (f : Mo α) (g : Mo (List α)) : Mo (List α) := Mo.bind f fun a => Mo.bind g fun as => Mo.pure (a :: as)
def callM (F : Fn) (g : Mo (List Hd)) : Mo Fr := Mo.bind g fun hs => callF F hs
def isLst : Bi → Bool
  | .list => true
  | _ => false
mutual
def E.sm : E → Sm
  | .var i => smV (readVar i)
  | .con d => smV (Mo.pure (.val d))
  | .op .add a b => ⟨opM addD a.sm.v b.sm.v, valB (opM addD a.sm.v b.sm.v), opN addD a.sm.v b.sm.v⟩
  | .op o a b => smV (opM o.op a.sm.v b.sm.v)
  | .cmp o a b => smB (opM o.op a.sm.v b.sm.v)
  | .chain o o' a b c => smB (chainM o.op o'.op a.sm.v b.sm.v c.sm.v)
  | .neg a => smV (unM negD a.sm.v)
  | .not a => ⟨notM a.sm.v, notB a.sm.b, frzN (notM a.sm.v)⟩
  | .and a b => ⟨andM a.sm.v b.sm.v, andB a.sm.b b.sm.b, frzN (andM a.sm.v b.sm.v)⟩
  | .or a b => ⟨orM a.sm.v b.sm.v, orB a.sm.b b.sm.b, frzN (orM a.sm.v b.sm.v)⟩
  | .ite c a b => ⟨iteM c.sm.b a.sm.v b.sm.v, iteB c.sm.b a.sm.b b.sm.b, frzN (iteM c.sm.b a.sm.v b.sm.v)⟩
  | .tup es => smV (tupM es.vs)
  | .lst es => smN (lstN es.vs)
  | .idx a b => smV (opM idxD a.sm.v b.sm.v)
  | .stp a b => smV (opM stpD a.sm.v b.sm.v)
  | .sli a lo hi => smV (sliM a.sm.v lo.v hi.v)
  | .isi t a => smV (isiM t a.sm.v)
  | .bi .list es => smN (callN listB es.vs)
  | .bi b es => smV (biM b.fn es.vs)
  | .join a b => smV (met1 joinD a.sm.v b.sm.v)
  | .up a => smV (met0 upD a.sm.v)
  | .app i a => smV (apM i a.sm.v)
  | .call F es ks => smN (callM F (appM es.vs ks.vs))
  | .lc it t own c e => smN (lcM it.ds t own c.b e.sm.v)
  | .dic => smV (Mo.pure (.val (.dct [])))
def Es.vs : Es → Mo (List Hd)
  | .nil => Mo.pure []
  | .cons e es => consM e.sm.v es.vs
def Oe.v : Oe → Option (Mo Hd)
  | .no => none
  | .so e => some e.sm.v
def Oe.b : Oe → Mo Bool
  | .no => Mo.pure true
  | .so e => e.sm.b
def Ie.ds : Ie → Mo (List D)
  | .seq e => seqM e.sm.v
  | .rng1 es => itM rngK1 es.vs
  | .rng2 es => itM rngK2 es.vs
  | .enum es => itM enumK es.vs
  | .zip es => itM zipK es.vs
end
def Es.ns : Es → Mo (List Fr)
  | .nil => Mo.pure []
  | .cons e es => consM e.sm.n es.ns
inductive Aop where
  | add | sub
def Aop.f : Aop → Int → Int → Int
  | .add => fun a b => a + b
  | .sub => fun a b => a - b
mutual
inductive S where
  | asg (i : Nat) (e : E) | asgT (t : Tg) (e : E) | par (is : List Nat) (es : Es) | set (i : Nat) (k e : E) | aug (i : Nat) (o : Aop) (e : E) | retV (i : Nat) | ret (e : E) | expr (e : E) | ite (c : E) (a b : Ss) | for (it : Ie) (t : Tg) (b : Ss) | brk | cont | pass
inductive Ss where
  | nil | cons (s : S) (ss : Ss)
end
def bkM : Ms := fun ρ => some (.ok .bk ρ)
def ctM : Ms := fun ρ => some (.ok .ct ρ)
mutual
def S.ms : S → Ms
  | .asg i e => asgM e.sm.n i
  | .asgT t e => asgT e.sm.v t
  | .par is es => parM es.ns is
  | .set i k e => setM i e.sm.v k.sm.v
  | .aug i o e => augM i o.f e.sm.v
  | .retV i => Mi.retV i
  | .ret e => retM e.sm.n
  | .expr e => dropM e.sm.v
  | .ite c a b => ifM c.sm.b a.ms b.ms
  | .for it t b => forM it.ds t b.ms
  | .brk => bkM
  | .cont => ctM
  | .pass => nxM
def Ss.ms : Ss → Ms
  | .nil => nxM
  | .cons s ss => seqS s.ms ss.ms
end
end Mi
set_option Elab.async false
set_option linter.all false
set_option maxRecDepth 100000
set_option maxHeartbeats 2000000
/-! M16: from the program's text to the small language -/
namespace Mi
open PySem PySem.Spec L2
open PyProof.Rows hiding St

/-! ### what is known of the module -/
inductive Ent where
  | con (d : D) | fn (k : Nat) (ps : List Str) (F : Fn)
structure Ce where
  N : List Str
  sc : Scope
  fnc : Str → Bool
  k : Nat
  lib : Str → Option Ent
def bnames : List Str := ["len", "abs", "int", "sum", "all", "any", "max", "min", "str", "repr", "list", "tuple", "isinstance", "range", "enumerate", "zip", "bool", "dict"]
structure LibOk (P : Program) (w : World) (K : PySem.W.Frag) (mg : Str → Option Value) (base : Heap) (lib : Str → Option Ent) : Prop where
  con : ∀ x d, lib x = some (.con d) → ∃ v u, mg x = some u ∧ RelV v u ∧ ∀ R H, R.K = K → DR R H d v
  fn : ∀ x k ps F, lib x = some (.fn k ps F) → ∃ f fd, mg x = some (.ref f) ∧ PySem.W.keepIn K (.ref f) = true ∧ Bd K fd ps ∧ FnG P w K mg base k f fd ps F
  no : ∀ x ∈ bnames, mg x = none
structure Ok (X : Cx) (W : WX) (ce : Ce) : Prop where
  N : X.N = ce.N
  nd : X.N.Nodup
  sc : X.env.scope = ce.sc
  kd : X.env.scope.kind = .function
  calm : X.calm = true
  room : Room ce.k X.A
  hg : X.A.guards = some []
  tk : Takes X W
  po : PassesOwn (model X.prog X.w) X.A X.env X.xe
  fnc : ∀ x, ce.fnc x = true → X.fn x = true
  lib : LibOk X.prog X.w X.K X.mg X.base ce.lib

/-! ### looks at the text -/
def ixOf : List Str → Str → Option Nat
  | [], _ => none
  | y :: ys, x => if y = x then some 0 else (ixOf ys x).map (· + 1)
theorem ixOf_ok : ∀ {N : List Str} {x : Str} {i : Nat}, ixOf N x = some i → N[i]? = some x
  | [], _, _, h => by cases h
  | y :: ys, x, i, h => by
    unfold ixOf at h
    split at h
    · rename_i e
      cases h
      rw [e]; rfl
    · obtain ⟨j, h1, rfl⟩ := map_some h
      simpa using ixOf_ok h1
def visC (sc : Scope) (x : Str) : Bool := match sc.names.lookup x with
  | some .local => true
  | some .cell => true
  | some .free => true
  | _ => false
theorem visC_ok {sc : Scope} {x : Str} (h : visC sc x = true) : Vis sc x := by
  unfold visC at h
  split at h
  · exact .inl (by assumption)
  · exact .inr (.inl (by assumption))
  · exact .inr (.inr (by assumption))
  · cases h
def glC (sc : Scope) (x : Str) : Bool := match sc.names.lookup x with
  | some .globalImplicit => true
  | _ => false
theorem glC_ok {X : Cx} {sc : Scope} {x : Str} (hs : X.env.scope = sc) (h : glC sc x = true) : Gl X x := by
  subst hs
  unfold glC at h
  split at h
  · assumption
  · cases h
def asgC (ce : Ce) (x : Str) : Bool := match ce.sc.names.lookup x with
  | some .local => true
  | some .cell => ce.fnc x
  | _ => false
theorem asgC_ok {X : Cx} {W : WX} {ce : Ce} (o : Ok X W ce) {x : Str} (h : asgC ce x = true) : Loc X.env.scope x ∧ (X.fn x = true ∨ X.env.scope.names.lookup x = some .local) := by
  unfold asgC at h
  rw [o.sc]
  split at h
  · rename_i e
    exact ⟨.inl e, .inr e⟩
  · rename_i e
    exact ⟨.inr e, .inl (o.fnc x h)⟩
  · cases h
def okN (x : Str) : Bool := !(x == ("__debug__" : Str)) && !(x == ("__classdict__" : Str))
theorem okN_ok {x : Str} (h : okN x = true) : (x == ("__debug__" : Str)) = false ∧ (x == ("__classdict__" : Str)) = false := by
  unfold okN at h
  simpa using h
def notStar : Expr → Bool
  | .Starred .. => false
  | _ => true
theorem star_co {e : Expr} {es : List Expr} {env : Env} (h : notStar e = true) : starEach (e :: es) env = (false, eval e env) :: starEach es env := by
  cases e <;> first | rfl | cases h
theorem asg_co {e : Expr} {es : List Expr} {env : Env} (h : notStar e = true) : assignEach (e :: es) env = (false, assign e env) :: assignEach es env := by
  cases e <;> first | rfl | cases h
theorem back_any {es : List Expr} {env : Env} {pos : Pos} (h : es.all notStar = true) : (backTo pos (starEach es env)).any (·.1) = false := by
  induction es with
  | nil => rfl
  | cons e es ih =>
    simp only [List.all_cons, Bool.and_eq_true] at h
    rw [star_co h.1]
    show (false || (backTo pos (starEach es env)).any (·.1)) = false
    rw [ih h.2]; rfl
def notSlice : Expr → Bool
  | .Slice .. => false
  | _ => true
theorem plain_ix {e : Expr} (h : notSlice e = true) : PlainIx e := by
  intro o i
  cases e <;> first | rfl | cases h
def notSet : Expr → Bool
  | .Set .. => false
  | _ => true
theorem nomark2 {e : Expr} {op : CmpOp} (h : notSet e = true) : behindInMarks op e = false := by
  cases e <;> first | rfl | cases h
theorem nofold {e : Expr} {env : Env} (h : notSet e = true) : ∀ x, foldedSetIterable e env x = pure x := by
  intro x
  cases e <;> first | rfl | cases h
def notCall0 : Expr → Bool
  | .Call _ [] [] _ => false
  | _ => true
theorem att_base {e : Expr} {a : Str} {env : Env} (h : notCall0 e = true) : attributeBase e a env (eval e env) = eval e env := by
  cases e with
  | Call f es ks pos =>
    cases es with
    | nil =>
      cases ks with
      | nil => cases h
      | cons k ks => cases f <;> rfl
    | cons e es => cases f <;> rfl
  | _ => rfl
def notComp : Expr → Bool
  | .ListComp .. => false
  | .SetComp .. => false
  | .DictComp .. => false
  | _ => true
theorem noswap {e : Expr} {t : Option Expr} {l : Nat} {env : Env} (h : notComp e = true) : swapsWith e t l env = pure false := by
  cases e <;> first | rfl | cases h

/-! ### the translation -/
def cName (ce : Ce) (x : Str) : Option E := match okN x, visC ce.sc x with
  | true, true => (ixOf ce.N x).map .var
  | true, false => match glC ce.sc x, ce.lib x with
    | true, some (.con d) => some (.con d)
    | _, _ => none
  | _, _ => none
def cCon : Const → Option E
  | .int i => some (.con (.int i))
  | .bool b => some (.con (.bl b))
  | .none => some (.con .non)
  | .str x => some (.con (.str x.cps.toList))
  | _ => none
def cEs (f : Expr → Option E) : List Expr → Option Es
  | [] => some .nil
  | e :: es => match notStar e, f e, cEs f es with
    | true, some a, some b => some (.cons a b)
    | _, _, _ => none
def cKs (f : Expr → Option E) : List Keyword → Option Es
  | [] => some .nil
  | k :: ks => match k.arg.isSome, f k.value, cKs f ks with
    | true, some a, some b => some (.cons a b)
    | _, _, _ => none
def cBool (f : Expr → Option E) (op : BoolOp) : List Expr → Option E
  | [] => none
  | [a] => f a
  | a :: b :: r => match op, f a, cBool f op (b :: r) with
    | .And, some x, some y => some (.and x y)
    | .Or, some x, some y => some (.or x y)
    | _, _, _ => none
def cOe (f : Expr → Option E) : Option Expr → Option Oe
  | none => some .no
  | some e => (f e).map .so
def cIfs (f : Expr → Option E) : List Expr → Option Oe
  | [] => some .no
  | [e] => (f e).map .so
  | _ => none
def cTs (f : Expr → Option Tg) : List Expr → Option Tgs
  | [] => some .nil
  | e :: es => match notStar e, f e, cTs f es with
    | true, some a, some b => some (.cons a b)
    | _, _, _ => none
def cT : Nat → Ce → Expr → Option Tg
  | _, ce, .Name x _ => match asgC ce x with
    | true => (ixOf ce.N x).map .nm
    | false => none
  | n + 1, ce, .Tuple es _ _ => (cTs (cT n ce) es).map .tup
  | _, _, _ => none
def isTupE : Expr → Bool
  | .Tuple .. => true
  | _ => false
def cI (f : Expr → Option E) (ce : Ce) (tg : Expr) : Expr → Option Ie
  | .Call (.Name x p) [a] [] pos => if glC ce.sc x = true ∧ x = "range" then (cEs f [a]).map .rng1 else if glC ce.sc x = true ∧ x = "enumerate" ∧ isTupE tg = true then (cEs f [a]).map .enum else (f (.Call (.Name x p) [a] [] pos)).map .seq
  | .Call (.Name x p) [a, b] [] pos => if glC ce.sc x = true ∧ x = "range" then (cEs f [a, b]).map .rng2 else if glC ce.sc x = true ∧ x = "zip" ∧ isTupE tg = true then (cEs f [a, b]).map .zip else (f (.Call (.Name x p) [a, b] [] pos)).map .seq
  | e => match notSet e with
    | true => (f e).map .seq
    | false => none
def ownOf (N : List Str) : List (Str × NameKind) → List (Str × Nat)
  | [] => []
  | (x, .local) :: r => match ixOf N x with
    | some i => (x, i) :: ownOf N r
    | none => ownOf N r
  | (x, .cell) :: r => match ixOf N x with
    | some i => (x, i) :: ownOf N r
    | none => ownOf N r
  | _ :: r => ownOf N r
def Ce.blk (ce : Ce) (scope : Scope) : Ce := { ce with sc := relS scope ce.sc, fnc := fun x => scope.names.lookup x == some .cell }
def cCall (f : Expr → Option E) (ce : Ce) (fn : Expr) (es : List Expr) (ks : List Keyword) (pos : Pos) : Option E := match fn with
  | .Name x _ => if okN x = true ∧ glC ce.sc x = true then (match ce.lib x with
    | some (.fn k ps F) => match cEs f es, cKs f ks with
      | some a, some b => if k ≤ ce.k ∧ es.length ≤ ps.length ∧ ks.filterMap (·.arg) = ps.drop es.length ∧ (es ≠ [] ∨ ks ≠ []) then some (.call F a b) else none
      | _, _ => none
    | some _ => none
    | none => match es, ks with
      | [e, .Name t _], [] => if x = "isinstance" then (if glC ce.sc t = true ∧ okN t = true ∧ notStar e = true then (match tyO t, f e with
          | some ty, some a => some (.isi ty a)
          | _, _ => none) else none) else (match biO x, cEs f es with
          | some b, some a => some (.bi b a)
          | _, _ => none)
      | e :: es, [] => match biO x, cEs f (e :: es) with
        | some b, some a => some (.bi b a)
        | _, _ => none
      | _, _ => none) else none
  | .Attribute o name apos => if (apos.endLine == pos.line) = true ∧ ks = [] ∧ notCall0 o = true then (match es with
    | [] => if name = "upper" then (f o).map .up else none
    | [e] => if notStar e = true then (if name = "join" then (match f o, f e with
        | some a, some b => some (.join a b)
        | _, _ => none) else if name = "append" then (match o with
        | .Name x _ => match okN x, visC ce.sc x, ixOf ce.N x, f e with
          | true, true, some i, some a => some (.app i a)
          | _, _, _, _ => none
        | _ => none) else none) else none
    | _ => none) else none
  | _ => none
def cLc (f : Ce → Expr → Option E) (ft : Ce → Expr → Option Tg) (ce : Ce) (elt : Expr) (gs : List Comprehension) (scope : Scope) : Option E := match gs with
  | [⟨tg, iter, ifs, a⟩] => if a = 0 then (match blkC ce.N ce.sc scope (ownOf ce.N scope.names) && notSet iter, cI (f ce) ce tg iter, ft (ce.blk scope) tg, cIfs (f (ce.blk scope)) ifs, f (ce.blk scope) elt with
    | true, some it, some t, some c, some e => if t.sl.all (fun i => ((ownOf ce.N scope.names).map (·.2)).contains i) = true then some (.lc it t ((ownOf ce.N scope.names).map (·.2)) c e) else none
    | _, _, _, _, _ => none) else none
  | _ => none
def cE : Nat → Ce → Expr → Option E
  | 0, _, _ => none
  | n + 1, ce, e => match e with
    | .Constant c _ _ => cCon c
    | .Name x _ => cName ce x
    | .BinOp a o b _ => match binO o, cE n ce a, cE n ce b with
      | some o, some a, some b => some (.op o a b)
      | _, _, _ => none
    | .UnaryOp .USub a _ => (cE n ce a).map .neg
    | .UnaryOp .Not a _ => (cE n ce a).map .not
    | .BoolOp o es _ => cBool (cE n ce) o es
    | .Compare a [o] [b] _ => match notSet b, cmpO o, cE n ce a, cE n ce b with
      | true, some o, some a, some b => some (.cmp o a b)
      | _, _, _, _ => none
    | .Compare a [o, o'] [b, c] _ => match notSet c, cmpO o, cmpO o', cE n ce a, cE n ce b, cE n ce c with
      | true, some o, some o', some a, some b, some c => some (.chain o o' a b c)
      | _, _, _, _, _, _ => none
    | .IfExp c a b _ => match cE n ce c, cE n ce a, cE n ce b with
      | some c, some a, some b => some (.ite c a b)
      | _, _, _ => none
    | .Tuple es _ _ => (cEs (cE n ce) es).map .tup
    | .List es _ => (cEs (cE n ce) es).map .lst
    | .Dict [] [] _ => some .dic
    | .Subscript a (.Slice lo hi none _) _ => match cE n ce a, cOe (cE n ce) lo, cOe (cE n ce) hi with
      | some a, some l, some h => some (.sli a l h)
      | _, _, _ => none
    | .Subscript a (.Slice none none (some k) _) _ => match cE n ce a, cE n ce k with
      | some a, some k => some (.stp a k)
      | _, _ => none
    | .Subscript a b _ => match notSlice b, cE n ce a, cE n ce b with
      | true, some a, some b => some (.idx a b)
      | _, _, _ => none
    | .Call f es ks pos => cCall (cE n ce) ce f es ks pos
    | .ListComp elt gs scope _ => cLc (cE n) (cT n) ce elt gs scope
    | _ => none
end Mi
set_option Elab.async false
set_option linter.all false
set_option maxRecDepth 100000
set_option maxHeartbeats 2000000
/-! M17: the translation is right: expressions -/
namespace Mi
open PySem PySem.Spec L2
open PyProof.Rows hiding St

def Gd (X : Cx) (W : WX) (e : Expr) (s : Sm) : Prop := PE X e (tA X.K W s.v) ∧ PT X e (tB X.K W s.b) ∧ PE X e (tN X.K W s.n)
def Good (X : Cx) (W : WX) (f : Expr → Option E) : Prop := ∀ e s, f e = some s → Gd X W e s.sm
section
variable {X : Cx} {W : WX} {e : Expr} {f : Expr → Option E} {ce : Ce}
theorem n_of {g : Mo Hd} (h : PE X e (tA X.K W g)) : PE X e (tN X.K W (frzN g)) := PE.imp h fun _ _ _ q => tN_of q
theorem v_of {g : Mo Fr} (h : PE X e (tN X.K W g)) : PE X e (tA X.K W (valN g)) := PE.imp h fun _ _ _ q => tN_val q
theorem b_of {g : Mo Hd} (h : PE X e (tA X.K W g)) (pl : ∀ whole, isTrue e X.env whole = (do let v ← whole; standAt e.pos; holding [v] (truthy v))) : PT X e (tB X.K W (valB g)) :=
  PT.imp (pt_truth h pl) fun _ _ _ q => valB_ok q
theorem smV_ok {g : Mo Hd} (h : PE X e (tA X.K W g)) (pl : ∀ whole, isTrue e X.env whole = (do let v ← whole; standAt e.pos; holding [v] (truthy v))) : Gd X W e (smV g) := ⟨h, b_of h pl, n_of h⟩
theorem smN_ok {g : Mo Fr} (h : PE X e (tN X.K W g)) (pl : ∀ whole, isTrue e X.env whole = (do let v ← whole; standAt e.pos; holding [v] (truthy v))) : Gd X W e (smN g) := ⟨v_of h, b_of (v_of h) pl, h⟩
theorem con_okK {d : D} {x : V} (hx : ∀ R H, R.K = X.K → DR R H d x) (h : PE X e (tC x)) : PE X e (tA X.K W (Mo.pure (.val d))) := PE.imp h fun σ H Q ⟨R, ρ, rr, hk, en, hf, q⟩ => by
  cases hf
  exact q R x H (Nx.refl en) (hx R H hk)
theorem str_eta (x : Str) : (⟨x.cps.toList.toArray⟩ : Str) = x := by simp
theorem cCon_ok {c : Const} {k : Nat} {p : Pos} {s : E} (h : cCon c = some s) : Gd X W (.Constant c k p) s.sm := by
  unfold cCon at h
  split at h
  · cases h
    exact smV_ok (con_okK (fun _ _ _ => .int _) pe_int) fun _ => rfl
  · cases h
    exact smV_ok (con_okK (fun _ _ _ => .bl _) pe_bl) fun _ => rfl
  · cases h
    exact smV_ok (con_okK (fun _ _ _ => .non) pe_non) fun _ => rfl
  · rename_i x
    cases h
    refine smV_ok (con_okK (x := .str x) (fun R H _ => ?_) pe_str) fun _ => rfl
    have := DR.str (R := R) (H := H) x.cps.toList
    rwa [str_eta] at this
  · cases h
theorem cName_ok (o : Ok X W ce) {x : Str} {p : Pos} {s : E} (h : cName ce x = some s) : Gd X W (.Name x p) s.sm := by
  unfold cName at h
  split at h
  · rename_i h1 h2
    obtain ⟨i, h3, rfl⟩ := map_some h
    obtain ⟨d1, d2⟩ := okN_ok h1
    exact smV_ok (PE.imp (pe_var (by rw [o.N]; exact ixOf_ok h3) (by rw [o.sc]; exact visC_ok h2) d1 d2) fun _ _ _ q => var_ok q) fun _ => rfl
  · rename_i h1 h2
    obtain ⟨d1, d2⟩ := okN_ok h1
    split at h
    · rename_i d h3 h4
      cases h
      obtain ⟨v, u, hm, rv, hd⟩ := o.lib.con x d h4
      exact smV_ok (con_okK hd (pe_glob (glC_ok o.sc h3) hm rv d1)) fun _ => rfl
    · cases h
  · cases h
/-! ### rows of expressions -/
theorem cEs_star : ∀ {es : List Expr} {s : Es}, cEs f es = some s → es.all notStar = true
  | [], _, _ => rfl
  | e :: es, s, h => by
    unfold cEs at h
    split at h
    · rename_i a b h1 h2 h3
      simp only [List.all_cons, Bool.and_eq_true]
      exact ⟨h1, cEs_star h3⟩
    · cases h
theorem cEs_ok (g : Good X W f) : ∀ {es : List Expr} {s : Es}, cEs f es = some s → PA X es (tAs X.K W s.vs) ∧ PA X es (tNs X.K W s.ns)
  | [], s, h => by
    cases h
    exact ⟨PA.imp pa_nil fun _ _ _ q => tAs_nil q, PA.imp pa_nil fun _ _ _ q => tNs_nil q⟩
  | e :: es, s, h => by
    unfold cEs at h
    split at h
    · rename_i a b h1 h2 h3
      cases h
      obtain ⟨g1, g2, g3⟩ := g e a h2
      obtain ⟨i1, i2⟩ := cEs_ok g h3
      exact ⟨PA.imp (pa_cons g1 i1 (star_co h1)) fun _ _ _ q => tAs_cons q, PA.imp (pa_cons g3 i2 (star_co h1)) fun _ _ _ q => tNs_cons q⟩
    · cases h
theorem cEs_len : ∀ {es : List Expr} {s : Es} {ρ ρ' : En} {hs : List Hd}, cEs f es = some s → s.vs ρ = some (.ok hs ρ') → hs.length = es.length
  | [], s, ρ, ρ', hs, h, e => by
    cases h
    cases e
    rfl
  | e :: es, s, ρ, ρ', hs, h, q => by
    unfold cEs at h
    split at h
    · rename_i a b h1 h2 h3
      cases h
      rcases bind_ok (show Mo.bind a.sm.v _ ρ = _ from q) with ⟨x, ρ1, h4, h5⟩ | ⟨x, ρ1, h4, h5⟩
      · rcases bind_ok h5 with ⟨xs, ρ2, h6, h7⟩ | ⟨x, ρ2, h6, h7⟩
        · cases h7
          simp [cEs_len h3 h6]
        · cases h7
      · cases h5
    · cases h
theorem cKs_ok (g : Good X W f) : ∀ {ks : List Keyword} {s : Es}, cKs f ks = some s → PK X ks (tAs X.K W s.vs) ∧ (ks.all fun k => k.arg.isSome) = true
  | [], s, h => by
    cases h
    exact ⟨⟨fun pos pins s σ H Q I q => pk_nil.run pos pins s σ H Q I (tAs_nil q)⟩, rfl⟩
  | ⟨nm, v, kp⟩ :: ks, s, h => by
    unfold cKs at h
    split at h
    · rename_i a b h1 h2 h3
      cases h
      obtain ⟨g1, g2, g3⟩ := g v a h2
      obtain ⟨i1, i2⟩ := cKs_ok g h3
      have hp := pk_cons (nm := nm) (kpos := kp) g1 i1
      refine ⟨⟨fun pos pins s σ H Q I q => hp.run pos pins s σ H Q I (tAs_cons q)⟩, ?_⟩
      simp only [List.all_cons, Bool.and_eq_true]
      exact ⟨h1, i2⟩
    · cases h
theorem cBool_ok (g : Good X W f) {op : BoolOp} {p : Pos} : ∀ {es : List Expr} {s : E}, cBool f op es = some s → PE X (.BoolOp op es p) (tA X.K W s.sm.v) ∧ PW X (.BoolOp op es p) (tB X.K W s.sm.b) ∧ PE X (.BoolOp op es p) (tN X.K W s.sm.n)
  | [], _, h => by cases h
  | [a], s, h => by
    obtain ⟨g1, g2, g3⟩ := g a s h
    refine ⟨pe_one g1, ?_, pe_one g3⟩
    cases op
    · exact pw_and1 g2
    · exact pw_or1 g2
  | a :: b :: r, s, h => by
    unfold cBool at h
    split at h
    · rename_i x y h1 h2
      cases h
      obtain ⟨g1, g2, g3⟩ := g a x h1
      obtain ⟨i1, i2, _⟩ := cBool_ok (op := .And) (p := p) g h2
      have hv := PE.imp (pe_andT g1 i1) fun _ _ _ q => andM_ok q
      exact ⟨hv, ⟨fun whole pins s σ H Q I q => (pw_and g2 i2).run whole pins s σ H Q I (andB_ok q)⟩, n_of hv⟩
    · rename_i x y h1 h2
      cases h
      obtain ⟨g1, g2, g3⟩ := g a x h1
      obtain ⟨i1, i2, _⟩ := cBool_ok (op := .Or) (p := p) g h2
      have hv := PE.imp (pe_orT g1 i1) fun _ _ _ q => orM_ok q
      exact ⟨hv, ⟨fun whole pins s σ H Q I q => (pw_or g2 i2).run whole pins s σ H Q I (orB_ok q)⟩, n_of hv⟩
    · cases h
theorem cOe_ok (g : Good X W f) {o : Option Expr} {s : Oe} (h : cOe f o = some s) : PO X o (tPr X.K W s.v) := by
  cases o with
  | none =>
    cases h
    exact po_none
  | some e =>
    obtain ⟨a, h1, rfl⟩ := map_some (show (f e).map Oe.so = some s from h)
    exact po_some (g e a h1).1
theorem cIfs_ok (g : Good X W f) {es : List Expr} {s : Oe} (h : cIfs f es = some s) : PTs X es (tB X.K W s.b) := by
  match es, h with
  | [], h =>
    cases h
    exact ⟨fun pins s σ H Q I q => pts_nil.run pins s σ H Q I (by
      obtain ⟨R, ρ, r, hk, e, hf, q⟩ := q
      cases hf
      exact q R _ H (Nx.refl e) rfl)⟩
  | [e], h =>
    obtain ⟨a, h1, rfl⟩ := map_some (show (f e).map Oe.so = some s from h)
    exact pts_one (g e a h1).2.1
/-! ### targets, what is walked -/
theorem cTs_ok {g : Expr → Option Tg} (hg : ∀ e t, g e = some t → PG X e (gT X.K t)) : ∀ {es : List Expr} {t : Tgs}, cTs g es = some t → PGs X es (gTs X.K t) ∧ (assignEach es X.env).length = t.len ∧ (assignEach es X.env).findIdx? (·.1) = none
  | [], t, h => by
    cases h
    exact ⟨pgs_no, rfl, rfl⟩
  | e :: es, t, h => by
    unfold cTs at h
    split at h
    · rename_i a b h1 h2 h3
      cases h
      obtain ⟨i1, i2, i3⟩ := cTs_ok hg h3
      refine ⟨pgs_co (hg e a h2) i1 (by rw [asg_co h1]; rfl), by rw [asg_co h1]; simp [Tgs.len, i2], ?_⟩
      rw [asg_co h1, List.findIdx?_cons, i3]
      rfl
    · cases h
theorem cT_ok (o : Ok X W ce) : ∀ {n : Nat} {e : Expr} {t : Tg}, cT n ce e = some t → PG X e (gT X.K t) := by
  intro n
  induction n with
  | zero =>
    intro e t h
    unfold cT at h
    split at h
    · rename_i x p
      split at h
      · rename_i h1
        obtain ⟨i, h2, rfl⟩ := map_some h
        obtain ⟨a1, a2⟩ := asgC_ok o h1
        exact pg_nm o.nd (by rw [o.N]; exact ixOf_ok h2) a1 a2
      · cases h
    · rename_i hx
      cases hx
    · cases h
  | succ n ih =>
    intro e t h
    unfold cT at h
    split at h
    · rename_i x p
      split at h
      · rename_i h1
        obtain ⟨i, h2, rfl⟩ := map_some h
        obtain ⟨a1, a2⟩ := asgC_ok o h1
        exact pg_nm o.nd (by rw [o.N]; exact ixOf_ok h2) a1 a2
      · cases h
    · rename_i hx
      cases hx
      obtain ⟨ts, h1, rfl⟩ := map_some h
      obtain ⟨i1, i2, i3⟩ := cTs_ok (fun e t he => ih he) h1
      exact pg_tp o.calm i1 i2 i3
    · cases h
theorem isTup_ok {tg : Expr} (h : isTupE tg = true) : ∃ es k p, tg = .Tuple es k p := by
  match tg, h with
  | .Tuple es k p, _ => exact ⟨es, k, p, rfl⟩
theorem cEs_one {a : Expr} {s : Es} (h : cEs f [a] = some s) : notStar a = true := by
  have := cEs_star h
  simpa using this
theorem cI_ok (o : Ok X W ce) (g : Good X W f) {tg it : Expr} {s : Ie} (h : cI f ce tg it = some s) : PI X tg it (iD X.K W s.ds) := by
  unfold cI at h
  split at h
  · rename_i x p a pos
    split at h
    · rename_i hx
      obtain ⟨h1, rfl⟩ := hx
      obtain ⟨es, h2, rfl⟩ := map_some h
      exact pi_rngD1 (glC_ok o.sc h1) (o.lib.no _ (by decide)) (cEs_ok g h2).1 (star_co (cEs_one h2))
    · split at h
      · rename_i hx
        obtain ⟨h1, rfl, h3⟩ := hx
        obtain ⟨es, h2, rfl⟩ := map_some h
        obtain ⟨ts, k, p', rfl⟩ := isTup_ok h3
        exact pi_enumD (glC_ok o.sc h1) (o.lib.no _ (by decide)) (cEs_ok g h2).1 (star_co (cEs_one h2))
      · obtain ⟨s', h2, rfl⟩ := map_some h
        exact pi_seq (g _ _ h2).1
  · rename_i x p a b pos
    have st : ∀ {s : Es}, cEs f [a, b] = some s → notStar a = true ∧ notStar b = true := fun {s} h => by
      have := cEs_star h
      simpa using this
    split at h
    · rename_i hx
      obtain ⟨h1, rfl⟩ := hx
      obtain ⟨es, h2, rfl⟩ := map_some h
      obtain ⟨s1, s2⟩ := st h2
      exact pi_rngD2 (glC_ok o.sc h1) (o.lib.no _ (by decide)) (cEs_ok g h2).1 (by rw [star_co s1, star_co s2]; rfl) (star_co s2)
    · split at h
      · rename_i hx
        obtain ⟨h1, rfl, h3⟩ := hx
        obtain ⟨es, h2, rfl⟩ := map_some h
        obtain ⟨s1, s2⟩ := st h2
        obtain ⟨ts, k, p', rfl⟩ := isTup_ok h3
        exact pi_zipD (glC_ok o.sc h1) (o.lib.no _ (by decide)) (cEs_ok g h2).1 (star_co s1) (back_any (by simpa using s2))
      · obtain ⟨s', h2, rfl⟩ := map_some h
        exact pi_seq (g _ _ h2).1
  · split at h
    · obtain ⟨s', h2, rfl⟩ := map_some h
      exact pi_seq (g _ _ h2).1
    · cases h
end
end Mi
set_option Elab.async false
set_option linter.all false
set_option maxRecDepth 100000
set_option maxHeartbeats 2000000
/-! M18: calls; every expression -/
namespace Mi
open PySem PySem.Spec L2
open PyProof.Rows hiding St

theorem appM_nil (g : Mo (List Hd)) : appM (Mo.pure []) g = g := by
  funext ρ
  unfold appM Mo.bind Mo.pure
  cases hb : g ρ with
  | none => simp [hb]
  | some r => cases r <;> simp [hb]
def Bi.nm : Bi → Str
  | .len => "len" | .abs => "abs" | .int => "int" | .sum => "sum" | .all => "all" | .any => "any" | .max => "max" | .min => "min" | .str => "str" | .repr => "repr" | .list => "list" | .tuple => "tuple"
theorem biO_ok {x : Str} {b : Bi} (h : biO x = some b) : x = b.nm := by
  unfold biO at h
  repeat' split at h
  all_goals first | (cases h; assumption) | cases h
theorem tyO_ok {x : Str} {t : Ty} (h : tyO x = some t) : x ∈ bnames ∧ bootBuiltins x = some (.type t.nm) ∧ x ≠ "__name__" := by
  unfold tyO at h
  repeat' split at h
  all_goals first | (cases h; rename_i e; subst e; exact ⟨by decide +kernel, by decide +kernel, by decide +kernel⟩) | cases h
section
variable {X : Cx} {W : WX} {f : Expr → Option E} {ce : Ce}
theorem sm_bi (b : Bi) (es : Es) (h : b ≠ .list) : (E.bi b es).sm = smV (biM b.fn es.vs) := by
  cases b <;> first | rfl | exact absurd rfl h
theorem bi_ok (o : Ok X W ce) {b : Bi} {p pos : Pos} {e : Expr} {es : List Expr} {s : Es} (gl : Gl X b.nm) (ha : PA X (e :: es) (tAs X.K W s.vs)) (st : (e :: es).all notStar = true) :
    Gd X W (.Call (.Name b.nm p) (e :: es) [] pos) (E.bi b s).sm := by
  have hst : notStar e = true ∧ es.all notStar = true := by simpa using st
  have he := star_co (es := es) (env := X.env) hst.1
  have hpl : (backTo pos (starEach es X.env)).any (·.1) = false := back_any hst.2
  have v : ∀ {r : List V → Hp → VK → Prop} {fn : List D → Option D}, PE X (.Call (.Name b.nm p) (e :: es) [] pos) (tCB r (tAs X.K W s.vs)) → CallS X.K r fn → Gd X W (.Call (.Name b.nm p) (e :: es) [] pos) (smV (biM fn s.vs)) := fun {r fn} h1 h2 =>
    smV_ok (PE.imp h1 fun _ _ _ q => call_ok h2 q) fun _ => rfl
  have hu := o.room.units
  cases b
  · exact v (pe_callB cr_lenD gl (o.lib.no _ (by decide +kernel)) (by decide +kernel) ha (by decide +kernel) (by decide +kernel) he hpl) lenB_ok
  · exact v (pe_callB call_abs gl (o.lib.no _ (by decide +kernel)) (by decide +kernel) ha (by decide +kernel) (by decide +kernel) he hpl) absB_ok
  · exact v (pe_callTy call_int1 gl (o.lib.no _ (by decide +kernel)) (by decide +kernel) ha (by decide +kernel) (by decide +kernel) he hpl) intB_ok
  · exact v (pe_callB (cr_sum o.calm) gl (o.lib.no _ (by decide +kernel)) (by decide +kernel) ha (by decide +kernel) (by decide +kernel) he hpl) sumB_ok
  · exact v (pe_callB (cr_all o.calm) gl (o.lib.no _ (by decide +kernel)) (by decide +kernel) ha (by decide +kernel) (by decide +kernel) he hpl) allB_ok
  · exact v (pe_callB (cr_any o.calm) gl (o.lib.no _ (by decide +kernel)) (by decide +kernel) ha (by decide +kernel) (by decide +kernel) he hpl) anyB_ok
  · exact v (pe_callB (call_max2 o.calm) gl (o.lib.no _ (by decide +kernel)) (by decide +kernel) ha (by decide +kernel) (by decide +kernel) he hpl) maxB_ok
  · exact v (pe_callB (call_min2 o.calm) gl (o.lib.no _ (by decide +kernel)) (by decide +kernel) ha (by decide +kernel) (by decide +kernel) he hpl) minB_ok
  · exact v (pe_callTy cr_strD gl (o.lib.no _ (by decide +kernel)) (by decide +kernel) ha (by decide +kernel) (by decide +kernel) he hpl) strB_ok
  · exact v (pe_callB (cr_repr o.hg hu) gl (o.lib.no _ (by decide +kernel)) (by decide +kernel) ha (by decide +kernel) (by decide +kernel) he hpl) reprB_ok
  · exact smN_ok (PE.imp (pe_callTy call_list_of gl (o.lib.no _ (by decide +kernel)) (by decide +kernel) ha (by decide +kernel) (by decide +kernel) he hpl) fun _ _ _ q => callN_ok listN_ok q) fun _ => rfl
  · exact v (pe_callTy call_tuple_of gl (o.lib.no _ (by decide +kernel)) (by decide +kernel) ha (by decide +kernel) (by decide +kernel) he hpl) tupleB_ok
theorem isi_okE (o : Ok X W ce) {p pt pos : Pos} {e : Expr} {x t : Str} {ty : Ty} {g : Mo Hd} (hx : x = "isinstance") (gl : Gl X x) (gt : Gl X t) (ht : tyO t = some ty) (dt : (t == ("__debug__" : Str)) = false) (he : PE X e (tA X.K W g)) (st : notStar e = true) :
    Gd X W (.Call (.Name x p) [e, .Name t pt] [] pos) (smV (isiM ty g)) := by
  subst hx
  obtain ⟨h1, h2, h3⟩ := tyO_ok ht
  refine smV_ok (PE.imp (pe_callB call_isi gl (o.lib.no _ (by decide +kernel)) (by decide +kernel) (pa_cons he (pa_cons (pe_bltn gt (o.lib.no _ h1) h2 (v := .ty ty.nm) rfl h3 dt) pa_nil rfl) (star_co st)) (by decide +kernel) (by decide +kernel) (star_co st) (back_any (by simp [notStar]))) fun _ _ _ q => isiM_ok q) fun _ => rfl
theorem cCall_ok (o : Ok X W ce) (g : Good X W f) {fn : Expr} {es : List Expr} {ks : List Keyword} {pos : Pos} {s : E} (h : cCall f ce fn es ks pos = some s) : Gd X W (.Call fn es ks pos) s.sm := by
  unfold cCall at h
  split at h
  · rename_i x p
    split at h
    · rename_i hx
      obtain ⟨h1, h2⟩ := hx
      obtain ⟨d1, d2⟩ := okN_ok h1
      have gl := glC_ok o.sc h2
      split at h
      · rename_i k ps F hl
        split at h
        · rename_i a b ha hb
          split at h
          · rename_i hc
            obtain ⟨c1, c2, c3, c4⟩ := hc
            cases h
            obtain ⟨fa, fd, m1, m2, m3, m4⟩ := o.lib.fn x k ps F hl
            obtain ⟨k1, k2⟩ := cKs_ok g hb
            obtain ⟨p1, _⟩ := cEs_ok g ha
            have hr := o.room.mono c1
            refine smN_ok ?_ fun _ => rfl
            cases es with
            | nil =>
              cases ha
              refine PE.imp (pe_callK0 m4 hr o.hg o.tk gl m1 m2 m3 k1 k2 (by simpa using c3) d1) fun σ H Q q => ?_
              obtain ⟨R, ρ, rr, hk, e, hf, q⟩ := q
              refine ⟨R, ρ, rr, hk, e, ?_, q⟩
              have e2 : appM (Es.vs .nil) b.vs = b.vs := appM_nil b.vs
              rw [← e2]
              exact hf
            | cons e es =>
              have st := cEs_star ha
              have hst : notStar e = true ∧ es.all notStar = true := by simpa using st
              exact pe_callKs m4 hr o.hg o.tk gl m1 m2 m3 p1 k1 k2 c2 c3 d1 (star_co hst.1) (back_any st) fun ρ hs ρ' q => cEs_len ha q
          · cases h
        · cases h
      · cases h
      · split at h
        · rename_i e t pt
          split at h
          · rename_i hi
            split at h
            · rename_i hc
              obtain ⟨c1, c2, c3⟩ := hc
              split at h
              · rename_i ty a ht ha
                cases h
                exact isi_okE o hi gl (glC_ok o.sc c1) ht (okN_ok c2).1 (g e a ha).1 c3
              · cases h
            · cases h
          · split at h
            · rename_i b a hb ha
              cases h
              have e := biO_ok hb
              subst e
              exact bi_ok o gl (cEs_ok g ha).1 (cEs_star ha)
            · cases h
        · split at h
          · rename_i b a hb ha
            cases h
            have e := biO_ok hb
            subst e
            exact bi_ok o gl (cEs_ok g ha).1 (cEs_star ha)
          · cases h
        · cases h
    · cases h
  · rename_i ob name apos
    split at h
    · rename_i hc
      obtain ⟨c1, c2, c3⟩ := hc
      subst c2
      split at h
      · split at h
        · rename_i hn
          subst hn
          obtain ⟨a, ha, rfl⟩ := map_some h
          exact smV_ok (PE.imp (pe_m0 F.slot_str_upper F.type_str_upper mt_upper (g _ _ ha).1 (att_base c3) c1) fun _ _ _ q => met0_ok upD_ok q) fun _ => rfl
        · cases h
      · rename_i e
        split at h
        · rename_i st
          split at h
          · rename_i hn
            subst hn
            split at h
            · rename_i a b ha hb
              cases h
              exact smV_ok (PE.imp (pe_m1 F.slot_str_join F.type_str_join mt_join (g _ _ ha).1 (g _ _ hb).1 (star_co st) (att_base c3) c1) fun _ _ _ q => met1_ok joinD_ok q) fun _ => rfl
            · cases h
          · split at h
            · rename_i hn
              subst hn
              split at h
              · rename_i x p
                split at h
                · rename_i i a n1 n2 n3 ha
                  cases h
                  obtain ⟨d1, d2⟩ := okN_ok n1
                  have pv : PE X (.Name x p) (tVar i) := pe_var (by rw [o.N]; exact ixOf_ok n3) (by rw [o.sc]; exact visC_ok n2) d1 d2
                  refine smV_ok (PE.imp (pe_bm F.plainAttrs_list F.slot_list_append F.type_list_append mt_append pv (pa_cons (g _ _ ha).1 pa_nil (star_co st)) rfl ?_ c1 (star_co st) rfl) fun _ _ _ q => apM_ok q) fun _ => rfl
                  rw [star_co st]
                  rfl
                · cases h
              · cases h
            · cases h
        · cases h
      · cases h
    · cases h
  · cases h
end
end Mi
set_option Elab.async false
set_option linter.all false
set_option maxRecDepth 100000
set_option maxHeartbeats 2000000
/-! M19: every expression -/
namespace Mi
open PySem PySem.Spec L2
open PyProof.Rows hiding St

section
variable {X : Cx} {W : WX} {ce : Ce}
theorem pt_ite {c a b : Expr} {tc ta tb : TT} {pos : Pos} (hc : PT X c tc) (ha : PT X a ta) (hb : PT X b tb) : PT X (.IfExp c a b pos) (fun σ H Q => tc σ H fun k H1 => if k = true then ta σ H1 Q else tb σ H1 Q) := by
  refine ⟨fun pins s σ H Q I h => ?_⟩
  show wpAny _ _ (do if ← isTrue c X.env (eval c X.env) then isTrue a X.env (eval a X.env) else isTrue b X.env (eval b X.env)) _ _ s
  refine wpAny_bind (thn (hc.run pins s σ H _ I h) fun k s1 ⟨H1, I1, q1⟩ => ?_)
  cases k with
  | true => exact ha.run pins s1 σ H1 Q I1 q1
  | false => exact hb.run pins s1 σ H1 Q I1 q1
theorem iteB_ok {K : PySem.W.Frag} {c a b : Mo Bool} {σ : St} {H : Hp} {Q : Bool → Hp → Prop} (h : tB K W (iteB c a b) σ H Q) : tB K W c σ H fun k H1 => if k = true then tB K W a σ H1 Q else tB K W b σ H1 Q := by
  refine bindB h fun R1 ρ1 k H1 r hk en h2 q => ?_
  cases k with
  | true => exact ⟨R1, ρ1, r, hk, en, h2, q⟩
  | false => exact ⟨R1, ρ1, r, hk, en, h2, q⟩
theorem blk_ok (o : Ok X W ce) {scope : Scope} {own : List (Str × Nat)} (hb : blkC ce.N ce.sc scope own = true) (s : Shared) (H : Hp) (C : Addr) (cl : List (Str × Addr)) (fp : List Addr) :
    Ok (X.blk s H scope (compEnvC scope cl C X.env) fp) W0 (ce.blk scope) where
  N := o.N
  nd := o.nd
  sc := by
    show relS scope X.env.scope = relS scope ce.sc
    rw [o.sc]
  kd := (blkOk_by hb).kind
  calm := o.calm
  room := o.room
  hg := o.hg
  tk := fun u s' ⟨a, B, sI, pins, σ, H, cls, d, _, _, _, _, _, _, _, _, w⟩ => w
  po := PassesOwn.never
  fnc := fun x h => h
  lib := o.lib
/-- the parts of a comprehension's translation -/
theorem lc_parts {f : Ce → Expr → Option E} {ft : Ce → Expr → Option Tg} (hf : ∀ {X : Cx} {W : WX} {ce : Ce}, Ok X W ce → Good X W (f ce)) (hft : ∀ {X : Cx} {W : WX} {ce : Ce}, Ok X W ce → ∀ e t, ft ce e = some t → PG X e (gT X.K t)) {elt : Expr} {gs : List Comprehension} {scope : Scope} {s : E} (o : Ok X W ce) (h : cLc f ft ce elt gs scope = some s) :
    ∃ tg iter ifs it t own c e, gs = [⟨tg, iter, ifs, 0⟩] ∧ s.sm = smN (lcM it t (own.map (·.2)) c e) ∧ (∀ i ∈ t.sl, i ∈ own.map (·.2)) ∧ PI X tg iter (iD X.K W it) ∧ BlkOk X.N X.env.scope scope own ∧
      (∀ (s : Shared) (H : Hp) (C : Addr) (cl : List (Str × Addr)) (fp : List Addr), PG (X.blk s H scope (compEnvC scope cl C X.env) fp) tg (gT X.K t)) ∧
      (∀ (s : Shared) (H : Hp) (C : Addr) (cl : List (Str × Addr)) (fp : List Addr), PTs (X.blk s H scope (compEnvC scope cl C X.env) fp) ifs (tB X.K W0 c)) ∧
      (∀ (s : Shared) (H : Hp) (C : Addr) (cl : List (Str × Addr)) (fp : List Addr), PE (X.blk s H scope (compEnvC scope cl C X.env) fp) elt (tA X.K W0 e)) ∧ ∀ x, foldedSetIterable iter X.env x = pure x := by
  unfold cLc at h
  split at h
  · rename_i tg iter ifs a
    split at h
    · rename_i ha
      subst ha
      split at h
      · rename_i it t c e h1 h2 h3 h4 h5
        split at h
        · rename_i hts
          cases h
          simp only [Bool.and_eq_true] at h1
          have hb := h1.1
          have ob := fun s H C cl fp => blk_ok o hb s H C cl fp
          refine ⟨tg, iter, ifs, it.ds, t, ownOf ce.N scope.names, c.b, e.sm.v, rfl, rfl, fun i hi => ?_, cI_ok o (hf o) h2, by rw [o.N, o.sc]; exact blkOk_by hb, fun s H C cl fp => hft (ob s H C cl fp) _ _ h3, fun s H C cl fp => cIfs_ok (hf (ob s H C cl fp)) h4,
            fun s H C cl fp => (hf (ob s H C cl fp) elt e h5).1, nofold h1.2⟩
          have := List.all_eq_true.mp hts i hi
          simpa using this
        · cases h
      · cases h
    · cases h
  · cases h
theorem op_sm (o : Bop) (a b : E) : (E.op o a b).sm = smV (opM o.op a.sm.v b.sm.v) ∨ (o = .add ∧ (E.op o a b).sm = ⟨opM addD a.sm.v b.sm.v, valB (opM addD a.sm.v b.sm.v), opN addD a.sm.v b.sm.v⟩) := by
  cases o <;> first | exact .inl rfl | exact .inr ⟨rfl, rfl⟩
theorem cE_ok : ∀ (n : Nat) {X : Cx} {W : WX} {ce : Ce}, Ok X W ce → Good X W (cE n ce) := by
  intro n
  induction n with
  | zero =>
    intro X W ce o e s h
    cases h
  | succ n ih =>
    intro X W ce o e s h
    have g := ih o
    unfold cE at h
    split at h
    · exact cCon_ok h
    · exact cName_ok o h
    · rename_i a op b p
      split at h
      · rename_i bo sa sb h1 h2 h3
        cases h
        have ga := g a sa h2
        have gb := g b sb h3
        have hv : PE X (.BinOp a op b p) (tA X.K W (opM bo.op sa.sm.v sb.sm.v)) := PE.imp (pe_op (binO_ok h1) ga.1 gb.1) fun _ _ _ q => op_ok bo.ok q
        rcases op_sm bo sa sb with e | ⟨rfl, e⟩
        · rw [e]
          exact smV_ok hv fun _ => rfl
        · rw [e]
          exact ⟨hv, b_of hv fun _ => rfl, PE.imp (pe_op (binO_ok h1) ga.1 gb.1) fun _ _ _ q => opN_ok addN_ok q⟩
      · cases h
    · rename_i a p
      obtain ⟨sa, h1, rfl⟩ := map_some h
      exact smV_ok (PE.imp (pe_un un_neg (g a sa h1).1) fun _ _ _ q => negM_ok q) fun _ => rfl
    · rename_i a p
      obtain ⟨sa, h1, rfl⟩ := map_some h
      have hv := PE.imp (pe_notT (pos := p) (g a sa h1).1) fun _ _ _ q => notM_ok q
      exact ⟨hv, PT.imp (pt_not (g a sa h1).2.1) fun _ _ _ q => notB_ok q, n_of hv⟩
    · rename_i op es p
      obtain ⟨h1, h2, h3⟩ := cBool_ok (p := p) g h
      exact ⟨h1, h2.pt, h3⟩
    · rename_i a op b p
      split at h
      · rename_i bo sa sb h1 h2 h3 h4
        cases h
        have ga := g a sa h3
        have gb := g b sb h4
        have hm := nomark2 (op := op) h1
        have ho := cmpO_ok (X := X) o.room.units h2
        have hv : PE X (.Compare a [op] [b] p) (tA X.K W (opM bo.op sa.sm.v sb.sm.v)) := PE.imp (pe_cmpR ho ga.1 gb.1 hm) fun _ _ _ q => op_ok bo.ok q
        exact ⟨hv, PT.imp (pt_cmpR ho ga.1 gb.1 hm) fun _ _ _ q => op_ok bo.ok (tstB_ok q), n_of hv⟩
      · cases h
    · rename_i a op op' b c p
      split at h
      · rename_i bo bo' sa sb sc h1 h2 h3 h4 h5 h6
        cases h
        have ga := g a sa h4
        have gb := g b sb h5
        have gc := g c sc h6
        have hm : lastMarks [op, op'] [b, c] = false := nomark2 (op := op') h1
        have ho := cmpO_ok (X := X) o.room.units h2
        have ho' := cmpO_ok (X := X) o.room.units h3
        have hv : PE X (.Compare a [op, op'] [b, c] p) (tA X.K W (chainM bo.op bo'.op sa.sm.v sb.sm.v sc.sm.v)) := PE.imp (pe_chain ho ho' ga.1 gb.1 gc.1 hm) fun _ _ _ q => chainM_ok bo.ok bo'.ok q
        exact ⟨hv, PT.imp (pt_chain ho ho' ga.1 gb.1 gc.1 hm) fun _ _ _ q => chainM_ok bo.ok bo'.ok (tstB_ok q), n_of hv⟩
      · cases h
    · rename_i c a b p
      split at h
      · rename_i sc sa sb h1 h2 h3
        cases h
        have gc := g c sc h1
        have ga := g a sa h2
        have gb := g b sb h3
        have hv : PE X (.IfExp c a b p) (tA X.K W (iteM sc.sm.b sa.sm.v sb.sm.v)) := PE.imp (pe_ifExp gc.2.1 ga.1 gb.1) fun _ _ _ q => iteM_ok q
        exact ⟨hv, PT.imp (pt_ite gc.2.1 ga.2.1 gb.2.1) fun _ _ _ q => iteB_ok q, n_of hv⟩
      · cases h
    · rename_i es k p
      obtain ⟨ss, h1, rfl⟩ := map_some h
      exact smV_ok (PE.imp (pe_tup (cEs_ok g h1).1) fun _ _ _ q => tup_ok q) fun _ => rfl
    · rename_i es p
      obtain ⟨ss, h1, rfl⟩ := map_some h
      exact smN_ok (PE.imp (pe_lst (cEs_ok g h1).1) fun _ _ _ q => lstN_ok q) fun _ => rfl
    · rename_i p
      cases h
      refine smV_ok (PE.imp pe_dnewK fun σ H Q q => ?_) fun _ => rfl
      obtain ⟨R, ρ, rr, hk, en, hf, q⟩ := q
      cases hf
      intro a ha
      have ex : Evl.Ex H (upd H a (.dK [])) := Evl.Ex.new ha
      exact q R (.ref a) _ (Nx.ex en ex) (.dct ⟨upd_same, en.fresh ha⟩ .nil .nil)
    · rename_i a lo hi p2 p
      split at h
      · rename_i sa sl sh h1 h2 h3
        cases h
        exact smV_ok (PE.imp (pe_slice sl_D (g a sa h1).1 (cOe_ok g h2) (cOe_ok g h3)) fun _ _ _ q => sliM_ok q) fun _ => rfl
      · cases h
    · rename_i a k p2 p
      split at h
      · rename_i sa sk h1 h2
        cases h
        exact smV_ok (PE.imp (pe_stp (g a sa h1).1 (g k sk h2).1) fun _ _ _ q => op_ok stpD_ok q) fun _ => rfl
      · cases h
    · rename_i a b p hns hns2
      split at h
      · rename_i sa sb h1 h2 h3
        cases h
        exact smV_ok (PE.imp (pe_ix ix_seq (g a sa h2).1 (g b sb h3).1 (plain_ix h1)) fun _ _ _ q => op_ok idxD_ok q) fun _ => rfl
      · cases h
    · exact cCall_ok o g h
    · rename_i elt gs scope p
      obtain ⟨tg, iter, ifs, it, t, own, c, e, rfl, hs, p1, p2, p3, p4, p5, p6, p7⟩ := lc_parts (fun o => ih o) (fun o e t h => cT_ok o h) o h
      rw [hs]
      exact smN_ok (PE.imp (pe_lc o.calm o.nd p2 p3 p4 p5 p6 p7) fun _ _ _ q => lcM_ok p1 q) fun _ => rfl
    · cases h
end
end Mi
set_option Elab.async false
set_option linter.all false
set_option maxRecDepth 100000
set_option maxHeartbeats 2000000
/-! M20: statements; a def -/
namespace Mi
open PySem PySem.Spec L2
open PyProof.Rows hiding St

/-! ### several stores -/
def nmsOf (sc : Scope) (line : Nat) (ts : List Expr) : List Str := ts.filterMap fun
    | .Name id pos => if sc.names.lookup id == some .local && pos.line == line then some id else none
    | _ => none
def lineOf (ts : List Expr) : Nat := (ts.head?.map (·.pos.line)).getD 0
def swO (sc : Scope) (ts vs : List Expr) : Option (Option (List Str)) :=
  if (!(ts.length == 2 || ts.length == 3) || vs.length != ts.length) = true then some none
  else if (vs.any fun | .Starred .. => true | _ => false) = true then some none
  else if ((nmsOf sc (lineOf ts) ts).length != ts.length || (nmsOf sc (lineOf ts) ts).eraseDups.length != (nmsOf sc (lineOf ts) ts).length) = true then some none
  else if vs.all (foldedForSure 8) = true then some none
  else if vs.all (constantsAlone 8) = true then none
  else some (some (nmsOf sc (lineOf ts) ts))
theorem swO_ok {env : Env} {sc : Scope} {ts vs : List Expr} {k k2 : Nat} {p p2 : Pos} {r : Option (List Str)} (hk : env.scope.kind = .function) (hs : env.scope = sc) (h : swO sc ts vs = some r) : swappedStores [.Tuple ts k p] (.Tuple vs k2 p2) env = pure r := by
  subst hs
  have hb : env.blockKind = .function := by unfold Env.blockKind; rw [hk]; rfl
  unfold swO at h
  unfold swappedStores
  simp only [hb]
  have e1 : ((ScopeKind.function != ScopeKind.function) : Bool) = false := by decide
  have nm : (ts.filterMap fun
    | .Name id pos => if env.kindOf id == some .local && pos.line == (Option.map (fun x => x.pos.line) ts.head?).getD 0 then some id else none
    | _ => none) = nmsOf env.scope (lineOf ts) ts := rfl
  split at h
  · rename_i c1
    cases h
    simp only [e1, Bool.or_false, c1, if_true]
  · rename_i c1
    simp only [e1, Bool.or_false, c1]
    refine (if_neg Bool.false_ne_true).trans ?_
    split at h
    · rename_i c2
      cases h
      exact if_pos c2
    · rename_i c2
      refine (if_neg c2).trans ?_
      split at h
      · rename_i c3
        cases h
        exact if_pos c3
      · rename_i c3
        refine (if_neg c3).trans ?_
        split at h
        · rename_i c4
          cases h
          exact if_pos c4
        · rename_i c4
          refine (if_neg c4).trans ?_
          split at h
          · cases h
          · rename_i c5
            cases h
            exact if_neg c5

/-- the places of plain names -/
def ixNames (ce : Ce) : List Expr → Option (List Nat × List Str)
  | [] => some ([], [])
  | .Name x _ :: r => match asgC ce x, ixOf ce.N x, ixNames ce r with
    | true, some i, some (is, xs) => some (i :: is, x :: xs)
    | _, _, _ => none
  | _ => none
def localC (sc : Scope) (x : Str) : Bool := match sc.names.lookup x with
  | some .local => true
  | _ => false
theorem localC_ok {sc : Scope} {x : Str} (h : localC sc x = true) : sc.names.lookup x = some .local := by
  unfold localC at h
  split at h
  · assumption
  · cases h

/-! ### the translation -/
def augO : Operator → Option Aop
  | .Add => some .add
  | .Sub => some .sub
  | _ => none
def setLcC (sc : Scope) (x : Str) (py pos : Pos) (scope : Scope) : Bool := localC sc x && py.line == pos.line && !(scope.names.any fun (n, k) => n == x && (k == .local || k == .cell))
def notTup : Expr → Bool
  | .Tuple .. => false
  | _ => true
def cSs (f : Stmt → Option S) : List Stmt → Option Ss
  | [] => some .nil
  | s :: ss => match f s, cSs f ss with
    | some a, some b => some (.cons a b)
    | _, _ => none
def cS : Nat → Ce → Stmt → Option S
  | 0, _, _ => none
  | n + 1, ce, st => match st with
    | .Assign [.Name x py] e pos => match asgC ce x, ixOf ce.N x, cE n ce e with
      | true, some i, some a => match e with
        | .ListComp elt gs scope p => if setLcC ce.sc x py p scope = true ∨ localC ce.sc x = false then some (.asg i a) else none
        | e => if notComp e = true then some (.asg i a) else none
      | _, _, _ => none
    | .Assign [.Tuple ts k p] (.Tuple es k2 p2) pos => match ixNames ce ts, swO ce.sc ts es, cEs (cE n ce) es with
      | some (is, xs), some none, some a => if decide (is.length ≤ 1000) = true then some (.par is a) else none
      | some (is, xs), some (some ys), some a => if decide (is.length ≤ 1000) = true ∧ xs = ys ∧ is.Nodup ∧ xs.all (localC ce.sc) = true then some (.par is a) else none
      | _, _, _ => none
    | .Assign [.Tuple ts k p] e pos => match notComp e && notTup e, cT n ce (.Tuple ts k p), cE n ce e with
      | true, some t, some a => some (.asgT t a)
      | _, _, _ => none
    | .Assign [.Subscript (.Name x p) k pp] e pos => match okN x && visC ce.sc x && notSlice k && notComp e, ixOf ce.N x, cE n ce k, cE n ce e with
      | true, some i, some kk, some a => some (.set i kk a)
      | _, _, _, _ => none
    | .AugAssign (.Name x p) op e pos => match asgC ce x, ixOf ce.N x, augO op, cE n ce e with
      | true, some i, some o, some a => some (.aug i o a)
      | _, _, _, _ => none
    | .Return (some (.Name x p)) pos => match okN x, visC ce.sc x, ixOf ce.N x with
      | true, true, some i => some (.retV i)
      | _, _, _ => (cE n ce (.Name x p)).map .ret
    | .Return (some e) pos => (cE n ce e).map .ret
    | .Return none pos => some (.ret (.con .non))
    | .Expr e pos => match notComp e, cE n ce e with
      | true, some a => some (.expr a)
      | _, _ => none
    | .If c a b pos => match cE n ce c, cSs (cS n ce) a, cSs (cS n ce) b with
      | some c, some a, some b => some (.ite c a b)
      | _, _, _ => none
    | .For tg it b [] pos => match notSet it, cI (cE n ce) ce tg it, cT n ce tg, cSs (cS n ce) b with
      | true, some i, some t, some b => some (.for i t b)
      | _, _, _, _ => none
    | .Break _ => some .brk
    | .Continue _ => some .cont
    | .Pass _ => some .pass
    | _ => none

/-! ### it is right -/
section
variable {X : Cx} {W : WX} {ce : Ce}
theorem ixNames_len : ∀ {ts : List Expr} {is : List Nat} {xs : List Str}, ixNames ce ts = some (is, xs) → ts.length = is.length ∧ xs.length = is.length
  | [], _, _, h => by
    cases h
    exact ⟨rfl, rfl⟩
  | e :: ts, is, xs, h => by
    unfold ixNames at h
    split at h
    · rename_i hx
      cases hx
    · rename_i hx
      cases hx
      split at h
      · rename_i h1 h2 h3
        cases h
        obtain ⟨i1, i2⟩ := ixNames_len h3
        simp [i1, i2]
      · cases h
    · cases h
theorem ixNames_get : ∀ {ts : List Expr} {is : List Nat} {xs : List Str} {k i : Nat} {x : Str}, ixNames ce ts = some (is, xs) → is[k]? = some i → xs[k]? = some x → ce.N[i]? = some x
  | [], _, _, k, i, x, h, h1, _ => by
    cases h
    simp at h1
  | e :: ts, is, xs, k, i, x, h, h1, h2 => by
    unfold ixNames at h
    split at h
    · rename_i hx
      cases hx
    · rename_i hx
      cases hx
      split at h
      · rename_i g1 g2 g3
        cases h
        cases k with
        | zero =>
          simp at h1 h2
          subst h1; subst h2
          exact ixOf_ok g2
        | succ k => exact ixNames_get g3 (by simpa using h1) (by simpa using h2)
      · cases h
    · cases h
theorem ixNames_pgs (o : Ok X W ce) : ∀ {ts : List Expr} {is : List Nat} {xs : List Str}, ixNames ce ts = some (is, xs) → PGs X ts (gNames is) ∧ (assignEach ts X.env).length = is.length ∧ (assignEach ts X.env).findIdx? (·.1) = none
  | [], _, _, h => by
    cases h
    exact ⟨pgs_nil, rfl, rfl⟩
  | e :: ts, is, xs, h => by
    unfold ixNames at h
    split at h
    · rename_i hx
      cases hx
    · rename_i x p r hx
      cases hx
      split at h
      · rename_i i is xs g1 g2 g3
        cases h
        obtain ⟨i1, i2, i3⟩ := ixNames_pgs o g3
        obtain ⟨a1, a2⟩ := asgC_ok o g1
        refine ⟨pgs_cons (pg_name o.nd (by rw [o.N]; exact ixOf_ok g2) a1 a2) i1 rfl, by rw [asg_co rfl]; simp [i2], ?_⟩
        rw [asg_co rfl, List.findIdx?_cons, i3]
        rfl
      · cases h
    · cases h
theorem size_1000 {n : Nat} (h : decide (n ≤ 1000) = true) : n ≤ sizeLine := by
  have : n ≤ 1000 := by simpa using h
  rw [sizeLine_eq]
  omega
theorem cSs_ok {f : Stmt → Option S} (hf : ∀ st s, f st = some s → PS X st (tS X.K W s.ms)) : ∀ {sts : List Stmt} {ss : Ss}, cSs f sts = some ss → PSs X sts (tS X.K W ss.ms)
  | [], _, h => by
    cases h
    exact PSs.imp pss_nil fun _ _ _ q => nx_ok q
  | st :: sts, ss, h => by
    unfold cSs at h
    split at h
    · rename_i a b h1 h2
      cases h
      exact PSs.imp (pss_cons (hf st a h1) (cSs_ok hf h2)) fun _ _ _ q => seq_ok q
    · cases h
theorem bk_ok {K : PySem.W.Frag} {D : Ends} {σ : St} {H : Hp} (h : tS K W bkM D σ H) : tBreak D σ H := by
  obtain ⟨R, ρ, r, hk, e, hf, q⟩ := h
  cases hf
  exact q R σ H (Ns.refl e)
theorem ct_ok {K : PySem.W.Frag} {D : Ends} {σ : St} {H : Hp} (h : tS K W ctM D σ H) : tCont D σ H := by
  obtain ⟨R, ρ, r, hk, e, hf, q⟩ := h
  cases hf
  exact q R σ H (Ns.refl e)
theorem pip_ok {op : Operator} {o : Aop} (h : augO op = some o) : PIp X op (ipI o.f) := by
  cases op <;> cases h
  · exact ip_add
  · exact ip_sub
theorem sub_assign {o i : Expr} {pos : Pos} {env : Env} (h : notSlice i = true) (v : Value) : assign (.Subscript o i pos) env v = (do
      let ov ← holding [v] (eval o env)
      let iv ← holding [v, ov] (eval i env)
      standAt pos
      holding [v, ov, iv] (setItem ov iv v)
      release [v, ov, iv] []) := by
  cases i <;> first | rfl | cases h
theorem swo_name {x : Str} {py : Pos} {e : Expr} : swappedStores [.Name x py] e X.env = pure none := by cases e <;> rfl
theorem swo_sub {a b : Expr} {py : Pos} {e : Expr} : swappedStores [.Subscript a b py] e X.env = pure none := by cases e <;> rfl
theorem swo_tup {ts : List Expr} {k : Nat} {p : Pos} {e : Expr} (h : notTup e = true) : swappedStores [.Tuple ts k p] e X.env = pure none := by cases e <;> first | rfl | cases h
theorem localC_no {sc : Scope} {x : Str} (h : localC sc x = false) : sc.names.lookup x ≠ some .local := by
  intro e
  unfold localC at h
  rw [e] at h
  cases h
theorem swap_cell {x : Str} {py : Pos} {elt : Expr} {gs : List Comprehension} {scope : Scope} {p : Pos} {l : Nat} {env : Env} (h : localC env.scope x = false) : swapsWith (.ListComp elt gs scope p) (some (.Name x py)) l env = pure false := by
  have h2 := localC_no h
  have h3 : (env.kindOf x == some NameKind.local) = false := by
    rw [beq_eq_false_iff_ne]
    exact h2
  show (pure (env.blockKind == .function && env.kindOf x == some .local && py.line == p.line && !(scope.names.any fun (n, k) => n == x && (k == .local || k == .cell))) : Sem Bool) = pure false
  rw [h3]
  simp
theorem asg_ps2 (o : Ok X W ce) {x : Str} {py pos : Pos} {e : Expr} {i : Nat} {a : E} (h1 : asgC ce x = true) (h2 : ixOf ce.N x = some i) (h3 : PE X e (tN X.K W a.sm.n)) (h4 : swapsWith e (some (.Name x py)) pos.line X.env = pure false) : PS X (.Assign [.Name x py] e pos) (tS X.K W (asgM a.sm.n i)) := by
  obtain ⟨a1, a2⟩ := asgC_ok o h1
  exact PS.imp (ps_set o.nd (by rw [o.N]; exact ixOf_ok h2) a1 h3 h4 a2) fun _ _ _ q => asgM_ok q
theorem asg_ps (o : Ok X W ce) {x : Str} {py pos : Pos} {e : Expr} {i : Nat} {a : E} (h1 : asgC ce x = true) (h2 : ixOf ce.N x = some i) (h3 : PE X e (tN X.K W a.sm.n)) (h4 : notComp e = true) : PS X (.Assign [.Name x py] e pos) (tS X.K W (asgM a.sm.n i)) := by
  obtain ⟨a1, a2⟩ := asgC_ok o h1
  exact PS.imp (ps_set o.nd (by rw [o.N]; exact ixOf_ok h2) a1 h3 (noswap h4) a2) fun _ _ _ q => asgM_ok q
theorem cS_ok : ∀ (n : Nat), Ok X W ce → ∀ (st : Stmt) (s : S), cS n ce st = some s → PS X st (tS X.K W s.ms) := by
  intro n
  induction n with
  | zero =>
    intro o st s h
    cases h
  | succ n ih =>
    intro o st s h
    have g := cE_ok n o
    have gs := fun {sts : List Stmt} {ss : Ss} (h : cSs (cS n ce) sts = some ss) => cSs_ok (ih o) h
    unfold cS at h
    split at h
    · rename_i x py e pos
      split at h
      · rename_i i a h1 h2 h3
        split at h
        · rename_i elt gns scope p
          split at h
          · rename_i hc0
            cases h
            cases hlc : localC ce.sc x with
            | false => exact asg_ps2 o h1 h2 (g _ a h3).2.2 (swap_cell (by rw [o.sc]; exact hlc))
            | true =>
            have hc : setLcC ce.sc x py p scope = true := by
              rcases hc0 with z | z
              · exact z
              · rw [hlc] at z
                cases z
            unfold setLcC at hc
            simp only [Bool.and_eq_true, Bool.not_eq_true'] at hc
            cases n with
            | zero => cases h3
            | succ m =>
              obtain ⟨tg, iter, ifs, it, t, own, c, e, rfl, hn, p1, p2, p3, p4, p5, p6, p7⟩ := lc_parts (fun o => cE_ok m o) (fun o e t h => cT_ok o h) o h3
              have hl := localC_ok hc.1.1
              rw [← o.sc] at hl
              refine PS.imp (ps_setLc o.calm o.nd (by rw [o.N]; exact ixOf_ok h2) hl (sw_true o.kd hl hc.1.2 hc.2) p2 p3 p4 p5 p6 p7) fun D σ H q => ?_
              have q2 : tS X.K W (asgM a.sm.n i) D σ H := q
              rw [hn] at q2
              exact lcM_ok p1 (asgM_ok q2)
          · cases h
        · split at h
          · rename_i hnc
            cases h
            exact asg_ps o h1 h2 (g _ a h3).2.2 hnc
          · cases h
      · cases h
    · rename_i ts k p es k2 p2 pos
      split at h
      · rename_i is xs a h1 h2 h3
        split at h
        · rename_i hz
          cases h
          obtain ⟨g1, g2, g3⟩ := ixNames_pgs o h1
          exact ps_parT o.calm (cEs_ok g h3).2 g1 g2 g3 (size_1000 hz) (swO_ok o.kd o.sc h2)
        · cases h
      · rename_i is xs ys a h1 h2 h3
        split at h
        · rename_i hz
          obtain ⟨z1, rfl, z2, z3⟩ := hz
          cases h
          refine ps_parS o.calm o.nd (cEs_ok g h3).2 (ixNames_len h1).2 z2 (fun k i x e1 e2 => ⟨by rw [o.N]; exact ixNames_get h1 e1 e2, ?_⟩) (size_1000 z1) (swO_ok o.kd o.sc h2)
          rw [o.sc]
          exact localC_ok (List.all_eq_true.mp z3 x (List.mem_of_getElem? e2))
        · cases h
      · cases h
    · rename_i ts k p e pos hne
      split at h
      · rename_i t a h1 h2 h3
        cases h
        simp only [Bool.and_eq_true] at h1
        exact PS.imp (ps_asg (g e a h3).1 (cT_ok o h2) (noswap (e := e) (t := some (.Tuple ts k p)) (l := pos.line) (env := X.env) h1.1) (swo_tup h1.2) rfl) fun _ _ _ q => asgT_ok q
      · cases h
    · rename_i x p k pp e pos
      split at h
      · rename_i i kk a h1 h2 h3 h4
        cases h
        simp only [Bool.and_eq_true] at h1
        obtain ⟨⟨⟨n1, n2⟩, n3⟩, n4⟩ := h1
        obtain ⟨d1, d2⟩ := okN_ok n1
        have pv : PE X (.Name x p) (tVar i) := pe_var (by rw [o.N]; exact ixOf_ok h2) (by rw [o.sc]; exact visC_ok n2) d1 d2
        exact PS.imp (ps_asg (g e a h4).1 (pg_sub pv (g k kk h3).1 set_list (sub_assign n3)) (noswap (e := e) (t := some (.Subscript (.Name x p) k pp)) (l := pos.line) (env := X.env) n4) swo_sub rfl) fun _ _ _ q => setM_ok q
      · cases h
    · rename_i x p op e pos
      split at h
      · rename_i i ao a h1 h2 h3 h4
        cases h
        obtain ⟨a1, a2⟩ := asgC_ok o h1
        exact PS.imp (ps_aug o.nd (by rw [o.N]; exact ixOf_ok h2) a1 (g e a h4).1 (pip_ok h3) a2) fun _ _ _ q => augM_ok q
      · cases h
    · rename_i x p pos
      split at h
      · rename_i i n1 n2 n3
        cases h
        obtain ⟨d1, d2⟩ := okN_ok n1
        have pv : PE X (.Name x p) (tVar i) := pe_var (by rw [o.N]; exact ixOf_ok n3) (by rw [o.sc]; exact visC_ok n2) d1 d2
        exact PS.imp (ps_ret pv) fun _ _ _ q => retV_ok q
      · obtain ⟨a, h1, rfl⟩ := map_some h
        exact PS.imp (ps_ret (g _ a h1).2.2) fun _ _ _ q => retM_ok q
    · obtain ⟨a, h1, rfl⟩ := map_some h
      exact PS.imp (ps_ret (g _ a h1).2.2) fun _ _ _ q => retM_ok q
    · cases h
      refine PS.imp ps_retN fun D σ H q => ?_
      obtain ⟨R, ρ, r, hk, e, hf, q⟩ := q
      cases hf
      exact q R σ H .non (Ns.refl e) .non
    · rename_i e pos
      split at h
      · rename_i a h1 h2
        cases h
        exact PS.imp (ps_expr (g e a h2).1 (noswap h1)) fun _ _ _ q => dropM_ok q
      · cases h
    · rename_i c a b pos
      split at h
      · rename_i sc sa sb h1 h2 h3
        cases h
        exact PS.imp (ps_if (g c sc h1).2.1 (gs h2) (gs h3)) fun _ _ _ q => ifM_ok q
      · cases h
    · rename_i tg it b pos
      split at h
      · rename_i si st sb h1 h2 h3 h4
        cases h
        exact PS.imp (ps_for o.po o.calm (cI_ok o g h2) (cT_ok o h3) (gs h4) (nofold h1)) fun _ _ _ q => forM_ok q
      · cases h
    · cases h
      exact PS.imp ps_break fun _ _ _ q => bk_ok q
    · cases h
      exact PS.imp ps_continue fun _ _ _ q => ct_ok q
    · cases h
      exact PS.imp ps_pass fun _ _ _ q => nx_ok q
    · cases h
end

/-! ### a def -/
def cDef (n : Nat) (N : List Str) (scope : Scope) (k : Nat) (lib : Str → Option Ent) (body : List Stmt) : Option Ss := cSs (cS n ⟨N, scope, fun _ => true, k, lib⟩) body
theorem fn_ok {P : Program} {w : World} {K : PySem.W.Frag} {mg : Str → Option Value} {base : Heap} {lib : Str → Option Ent} (lo : LibOk P w K mg base lib) {x qual : Str} {params : Arguments} {body : List Stmt} {scope : Scope} {f : Addr} {fd : FuncData}
    (F : FunD K x qual params body scope [] [] f fd) {N ps : List Str} {n k : Nat} {ss : Ss} (hS : C8.scC N ps scope = true) (hc : cDef n N scope k lib body = some ss) : FnG P w K mg base (k + 1) f fd ps (runF N.length ps.length ss.ms) := by
  obtain ⟨oc, od, dV, kV, doc, pm, an, cdv, ct, osl, rfl, lk, hcd, _, _⟩ := F.ex
  have S := C8.fnScope_by hS
  refine fnG_of lk hcd S fun A outer s H E hr hg => ?_
  refine cSs_ok (fun st s' h => cS_ok n ?_ st s' h) hc
  exact { N := rfl, nd := S.nd, sc := rfl, kd := S.kind, calm := rfl, room := hr, hg := hg, tk := takes_of rfl rfl rfl rfl, po := passes_of rfl, fnc := fun _ _ => rfl, lib := lo }
end Mi
set_option Elab.async false
set_option linter.all false
set_option maxRecDepth 100000
set_option maxHeartbeats 2000000
/-! M21: a law's end; the module's table -/
namespace Mi
open PySem PySem.Spec L2
open PyProof.Rows hiding St

theorem ints_drs {R : RC} {H : Hp} : ∀ ns : List Int, DRs R H (ns.map D.int) (ns.map V.int)
  | [] => .nil
  | n :: ns => .cons (.int n) (ints_drs ns)
/-- the script -/
theorem script_fz {K : PySem.W.Frag} {H : Hp} {p : Addr} {xs : List V} (hO : Only H) (hS : SqL K H p xs) : FzAt ⟨K, fun _ => False⟩ H p xs := by
  rcases hS with (h | ⟨o, h⟩) | h
  · rcases hO p with z | ⟨ob, ys, z⟩ <;> (rw [h] at z; cases z)
  · exact .inl ⟨⟨o, h⟩, id⟩
  · exact .inr (.inr h)
def saysTrue (F : Fn) (n : Nat) : Prop := ∀ ns : List Int, ns.length ≤ n → ∃ sl, F [.v (.frz (ns.map D.int))] = some (.ok (.dat (.bl true)) sl)
section
variable {P : Program} {w : World} {K : PySem.W.Frag} {mg mb : Str → Option Value} {k : Nat} {fa p : Addr} {x : Str} {F : Fn} {t : Shared} {vs : List Value} {ns : List Int}
theorem old_of {H H2 : Hp} {t2 : Shared} (hO : Only H) (hk : HOk P w H t.heap) (hk2 : HOk P w H2 t2.heap) (un : Un (frs []) [] H H2 t.heap t2.heap) : OldK t.heap t2.heap := by
  refine OldK.of_keep fun b o e => ?_
  cases hb : H b with
  | none => exact un.keep b o e hb (fun z => by cases z) (fun z => by cases z)
  | some u =>
    rcases hO b with z | ⟨ob, xs, z⟩
    · exact absurd (hb.symm.trans z) (by simp)
    · obtain ⟨e1, _⟩ := hk b _ z
      obtain ⟨e2, _⟩ := hk2 b _ (un.frzs b ob _ z)
      exact (Option.some.inj (e1.symm.trans e)) ▸ e2
/-- from an abstract heap that holds nothing but the script -/
theorem call_core (G : ∀ base : Heap, K.In base → base.Ns mainGlobals mg → ∃ fd, Bd K fd [x] ∧ FnG P w K mg base k fa fd [x] F) (hr : Room k callerA)
    (KX : K.In t.heap) (n1 : t.heap.Ns mainGlobals mg) (n2 : t.heap.Ns builtinsNs mb) (n3 : ∀ x : Str, x ≠ "__name__" → mb x = bootBuiltins x) (n4 : t.heap.NoLimit) (hgs : t.gens = #[])
    (hp : t.heap.get? p = some { cls := .type "list", data := .seq vs.toArray }) {H : Hp} (hO : Only H) (hS : SqL K H p (ns.map V.int)) (hk : HOk P w H t.heap) (hA : ∀ b, H b ≠ none → b = p) (hK : H p ≠ none → K.lookup p = none)
    (hF : ∃ sl, F [.v (.frz (ns.map D.int))] = some (.ok (.dat (.bl true)) sl)) :
    codeAny (model P w) callerA (.call (.ref fa) ⟨[.ref p], []⟩) (fun r t2 => r = .ok (.ret (.bool true)) ∧ OldK t.heap t2.heap ∧ t2.os = t.os ∧ AllBare t2.gens) t := by
  obtain ⟨sl2, hF⟩ := hF
  have low : ∀ {b : Addr} {o : Obj}, t.heap.get? b = some o → H b = none → (hidT t.heap H).get? b = some o := fun e n => hidT_get e n
  have out : ∀ {b : Addr} {o : Obj} {es : Array DictEntry} {ep : Nat}, t.heap.get? b = some o → o.data = .dict es ep → H b = none := fun {b o es ep} e d => by
    by_cases z : H b = none
    · exact z
    · have := hA b z
      subst this
      rw [hp] at e
      cases e
      cases d
  have space : ∀ {b : Addr} {m : Str → Option Value}, t.heap.Ns b m → (hidT t.heap H).Ns b m := fun {b m} h => by
    obtain ⟨o, es, ep, e, d, r⟩ := h
    exact ⟨o, es, ep, low e (out e d), d, r⟩
  have inK : K.In (hidT t.heap H) := fun b o e => by
    refine low (KX b o e) ?_
    by_cases z : H b = none
    · exact z
    · have := hA b z
      subst this
      rw [hK z] at e
      cases e
  obtain ⟨mc, c1, c2⟩ := n4
  have md : Mod K mg (hidT t.heap H) := { kin := inK, glob := space n1, blt := ⟨mb, space n2, n3⟩, nolimit := ⟨mc, space c1, c2⟩ }
  have e0 : Env0 P w K mg (hidT t.heap H) callerA [] t H :=
    { frames := rfl, mod := md, bs := fun b o e => of_hidT e, bsz := Nat.le_of_eq (hidT_size _ _), funs := trivial, frf := fun b z => (by cases z), hok := hk, bare := .of_eq hgs }
  have en : EnR ⟨K, fun _ => False⟩ H [.v (.frz (ns.map D.int))] ([V.ref p].map some) := by
    refine ⟨rfl, fun i s h => ?_, fun i j l m o u hij hi hj => ?_, fun a h => h.elim⟩
    · cases i with
      | zero =>
        cases h
        exact ⟨_, rfl, .ref p, rfl, .frz (script_fz hO hS) (ints_drs ns)⟩
      | succ i => simp at h
    · cases i with
      | zero => cases hi
      | succ i => simp at hi
  obtain ⟨fd, hbind, FG⟩ := G _ inK (space n1)
  refine codeAny_mono (FG.run callerA [] t H ⟨[.ref p], []⟩ [.ref p] [.ref p] (fun v _ => v = .bl true) (fun _ _ _ => False) hr rfl e0 (hbind t [.ref p] [] KX rfl) (.cons rfl .nil)
    ⟨⟨K, fun _ => False⟩, _, _, rfl, en, hF, fun x H' n dr => by cases dr; rfl⟩) fun r t2 h => ?_
  cases r with
  | error e =>
    obtain ⟨_, _, _, _, _, _, _, _, _, _, _, _, z⟩ := h
    exact z.elim
  | ok fl =>
    cases fl with
    | ret u =>
      obtain ⟨v, H2, h1, h2, un, hk2, rv, q⟩ := h
      have q' : v = .bl true := q
      subst q'
      obtain rfl : u = Value.bool true := rv
      exact ⟨rfl, old_of hO hk hk2 un, h1, h2⟩
    | next => exact h.elim
    | brk => exact h.elim
    | cont => exact h.elim
end
/-- a law's end -/
theorem walkG {l : PySem.W.OpenLaw} {n k : Nat} {q : Program} {loose : List Str} {XP : (Str → Option Value) → Heap → Prop} {YP : World → Heap → Prop} {d : DefRec} {x : Str} {F : Fn}
    (hn : l.most = some n) (hn2 : n ≤ sizeLine) (hdf : d.params.defaults = []) (hr : Room k callerA) (hF : saysTrue F n)
    (G : ∀ (w : World) (mg : Str → Option Value) (fa : Addr) (h : Heap), YP w h → h.Ns mainGlobals mg → mg d.name = some (.ref fa) →
      ∃ K : PySem.W.Frag, K.In h ∧ ∀ base : Heap, K.In base → base.Ns mainGlobals mg → ∃ fd, Bd K fd [x] ∧ FnG l.prog w K mg base k fa fd [x] F) :
    PySem.W.WalkO q loose XP YP l.row.toRowW d [] (fun f vs => PySem.call f vs) := by
  refine Att.attach_call hn hdf fun w _ t mg mb fa _ _ _ _ p vs ns gr y _ _ _ hmg hp hints hlen hgs => ?_
  obtain ⟨K, KX, hG⟩ := G w mg fa _ y gr.T.g hmg
  have hl := Nat.le_trans hlen hn2
  have rv := vals_ints hints
  have core := fun {H : Hp} => call_core (H := H) (ns := ns) hG hr KX gr.T.g gr.T.b gr.T.builtins gr.T.nolimit hgs hp
  cases hk : K.lookup p with
  | some o =>
    have e := KX p o hk
    rw [hp] at e
    cases e
    refine core (H := fun _ => none) (fun _ => .inl rfl) (.inr ⟨_, vs.toArray, _, hk, rfl, rfl, rfl, ?_, ?_⟩) (fun b u z => ?_) (fun b z => absurd rfl z) (fun z => absurd rfl z) (hF ns hlen)
    · rw [List.size_toArray, hints.length]
      exact hl
    · simpa using rv
    · have z2 : (none : Option HO) = some u := z
      cases z2
  | none =>
    refine core (H := fun b => if b = p then some (.frz { cls := .type "list", data := .seq vs.toArray } (.lst (ns.map V.int))) else none) (fun b => ?_) (.inl (.inr ⟨{ cls := .type "list", data := .seq vs.toArray }, if_pos rfl⟩)) (fun b u z => ?_) (fun b z => ?_) (fun _ => hk) (hF ns hlen)
    · by_cases e : b = p
      · exact .inr ⟨_, _, if_pos e⟩
      · exact .inl (if_neg e)
    · by_cases e : b = p
      · subst e
        cases (if_pos rfl).symm.trans z
        exact ⟨hp, by rw [List.length_map]; exact hl, vs, _, rv, hp⟩
      · cases (if_neg e).symm.trans z
    · by_cases e : b = p
      · exact e
      · exact absurd (if_neg e) z

/-! ### the module's table -/
section
variable {P : Program} {w : World} {K : PySem.W.Frag} {mg : Str → Option Value} {base : Heap} {l : List (Str × Ent)}
theorem lib_nil (no : ∀ x ∈ bnames, mg x = none) : LibOk P w K mg base (fun x => ([] : List (Str × Ent)).lookup x) := ⟨fun x d h => (nomatch h), fun x k ps F h => (nomatch h), no⟩
theorem look_cons {x y : Str} {a e : Ent} (h : ((y, a) :: l).lookup x = some e) : (x = y ∧ e = a) ∨ l.lookup x = some e := by
  rw [List.lookup_cons] at h
  cases hb : x == y with
  | true =>
    rw [hb] at h
    cases h
    exact .inl ⟨by simpa using hb, rfl⟩
  | false =>
    rw [hb] at h
    exact .inr h
theorem lib_con (o : LibOk P w K mg base (fun x => l.lookup x)) {y : Str} {d : D} {v : V} {u : Value} (hm : mg y = some u) (rv : RelV v u) (hd : ∀ R H, R.K = K → DR R H d v) : LibOk P w K mg base (fun x => ((y, Ent.con d) :: l).lookup x) :=
  ⟨fun x d' h => by
    rcases look_cons h with ⟨rfl, e⟩ | h
    · cases e
      exact ⟨v, u, hm, rv, hd⟩
    · exact o.con x d' h, fun x k ps F h => by
    rcases look_cons h with ⟨rfl, e⟩ | h
    · cases e
    · exact o.fn x k ps F h, o.no⟩
theorem lib_int (o : LibOk P w K mg base (fun x => l.lookup x)) {y : Str} {i : Int} (hm : ∃ t, mg y = some (.int i t)) : LibOk P w K mg base (fun x => ((y, Ent.con (.int i)) :: l).lookup x) := by
  obtain ⟨t, hm⟩ := hm
  exact lib_con o hm (v := .int i) ⟨t, rfl⟩ fun _ _ _ => .int i
theorem lib_str (o : LibOk P w K mg base (fun x => l.lookup x)) {y : Str} {s : List Nat} {z : Str} (hz : z.cps.toList = s) (hm : ∃ t, mg y = some (.str z t)) : LibOk P w K mg base (fun x => ((y, Ent.con (.str s)) :: l).lookup x) := by
  obtain ⟨t, hm⟩ := hm
  subst hz
  refine lib_con o hm (v := .str z) ⟨t, rfl⟩ fun R H _ => ?_
  have := DR.str (R := R) (H := H) z.cps.toList
  rwa [str_eta] at this
theorem lib_fn (o : LibOk P w K mg base (fun x => l.lookup x)) {y : Str} {k : Nat} {ps : List Str} {F : Fn} {f : Addr} {fd : FuncData} (hm : mg y = some (.ref f)) (hk : PySem.W.keepIn K (.ref f) = true) (hb : Bd K fd ps) (G : FnG P w K mg base k f fd ps F) :
    LibOk P w K mg base (fun x => ((y, Ent.fn k ps F) :: l).lookup x) :=
  ⟨fun x d' h => by
    rcases look_cons h with ⟨rfl, e⟩ | h
    · cases e
    · exact o.con x d' h, fun x k' ps' F' h => by
    rcases look_cons h with ⟨rfl, e⟩ | h
    · cases e
      exact ⟨f, fd, hm, hk, hb, G⟩
    · exact o.fn x k' ps' F' h, o.no⟩
theorem bd_of {x qual : Str} {params : Arguments} {body : List Stmt} {scope : Scope} {kws : List (Str × V)} {f : Addr} {fd : FuncData} {ps : List Str} (F : FunD K x qual params body scope [] kws f fd)
    (h : ∀ (kV doc pm : Value) (an : Option Addr) (cdv ct : Value) (us ws : List Value), (us ++ ws).length = ps.length → bindArgs (PySem.W.fnOf x qual params body scope .none kV doc pm an cdv ct) ⟨us, (ps.drop us.length).zip ws⟩ = pure (ps.zip (us ++ ws))) : Bd K fd ps := by
  obtain ⟨oc, od, dV, kV, doc, pm, an, cdv, ct, osl, rfl, lk, hcd, hD, hK⟩ := F.ex
  rcases hD with ⟨_, rfl⟩ | ⟨e, _⟩
  · exact fun s us ws _ hl => .of_eq (h kV doc pm an cdv ct us ws hl)
  · exact absurd rfl e
/-- a def of the table -/
theorem def_in (o : LibOk P w K mg base (fun x => l.lookup x)) {x : Str} {params : Arguments} {body : List Stmt} {scope : Scope} {f : Addr} {fd : FuncData} (F : FunD K x x params body scope [] [] f fd) (hm : mg x = some (.ref f)) {N ps : List Str} {n k : Nat} {ss : Ss}
    (hS : C8.scC N ps scope = true) (hc : cDef n N scope k (fun x => l.lookup x) body = some ss)
    (hb : ∀ (kV doc pm : Value) (an : Option Addr) (cdv ct : Value) (us ws : List Value), (us ++ ws).length = ps.length → bindArgs (PySem.W.fnOf x x params body scope .none kV doc pm an cdv ct) ⟨us, (ps.drop us.length).zip ws⟩ = pure (ps.zip (us ++ ws))) :
    LibOk P w K mg base (fun y => ((x, Ent.fn (k + 1) ps (runF N.length ps.length ss.ms)) :: l).lookup y) :=
  lib_fn o hm F.kp (bd_of F hb) (fn_ok o F hS hc)
end
end Mi
set_option Elab.async false
set_option linter.all false
set_option maxRecDepth 100000
set_option maxHeartbeats 2000000
/-! P0: reckoning with the small language -/
namespace Mi
open PySem L2

def Okw {α : Type} (m : Mo α) (ρ : En) (post : α → En → Prop) : Prop := ∃ a ρ', m ρ = some (.ok a ρ') ∧ post a ρ'
def Sow {α : Type} (o : Option α) (k : α → Prop) : Prop := ∃ a, o = some a ∧ k a
def Ifw (b : Bool) (A B : Prop) : Prop := (b = true ∧ A) ∨ (b = false ∧ B)
def Bow (h : Hd) (k : Bool → Prop) : Prop := ∃ b, h = .val (.bl b) ∧ k b
def Itw (d : D) (k : Int → Prop) : Prop := ∃ i, d = .int i ∧ k i
def Chw (z : D) (A B : Prop) : Prop := (z = .bl false ∧ A) ∨ (z = .bl true ∧ B)
def Seqw (fl : Fl) (A B : Prop) : Prop := (fl = .nx ∧ A) ∨ (fl ≠ .nx ∧ B)
def Rtw (s : Option Sl) (k : Fr → Prop) : Prop := match s with
  | some (.v d) => k (.dat d)
  | some (.own false o) => k (.new o)
  | _ => False
section
variable {α β : Type} {ρ : En} {post : β → En → Prop}
theorem okv_bind_0 {m : Mo α} {k : α → Mo β} : Okw (Mo.bind m k) ρ post ↔ Okw m ρ fun a ρ' => Okw (k a) ρ' post := by
  constructor
  · rintro ⟨b, ρ2, h, q⟩
    rcases bind_ok h with ⟨a, ρ1, h1, h2⟩ | ⟨x, ρ1, h1, h2⟩
    · exact ⟨a, ρ1, h1, b, ρ2, h2, q⟩
    · cases h2
  · rintro ⟨a, ρ1, h1, b, ρ2, h2, q⟩
    exact ⟨b, ρ2, by simp [Ifw, Chw, Bow, Itw, Sow, Mo.bind, h1, h2], q⟩
theorem okv_pure_0 {a : β} : Okw (Mo.pure a) ρ post ↔ post a ρ := by
  constructor
  · rintro ⟨b, ρ2, h, q⟩
    cases h
    exact q
  · exact fun h => ⟨a, ρ, rfl, h⟩
theorem okv_lift_0 {o : Option β} : Okw (Mo.lift o) ρ post ↔ Sow (o) fun a => post a ρ := by
  constructor
  · rintro ⟨b, ρ2, h, q⟩
    obtain ⟨a, h1, h2⟩ := lift_eq h
    cases h2
    exact ⟨b, h1, q⟩
  · rintro ⟨a, rfl, q⟩
    exact ⟨a, ρ, rfl, q⟩
theorem okv_imp_0 {m : Mo β} {post' : β → En → Prop} (h : Okw m ρ post) (i : ∀ a ρ', post a ρ' → post' a ρ') : Okw m ρ post' := by
  obtain ⟨a, ρ', h1, h2⟩ := h
  exact ⟨a, ρ', h1, i a ρ' h2⟩
end
section
variable {ρ : En}
theorem okv_deref_0 {h : Hd} {post : D → En → Prop} : Okw (deref h) ρ post ↔ Sow (deref1 ρ h) fun d => post d ρ := by
  constructor
  · rintro ⟨a, ρ', h1, h2⟩
    unfold deref at h1
    cases h3 : deref1 ρ h with
    | none => simp [Ifw, Chw, Bow, Itw, Sow, h3] at h1
    | some d =>
      simp [Ifw, Chw, Bow, Itw, Sow, h3] at h1
      obtain ⟨rfl, rfl⟩ := h1
      exact ⟨d, rfl, h2⟩
  · rintro ⟨d, h1, h2⟩
    exact ⟨d, ρ, by simp [Ifw, Chw, Bow, Itw, Sow, deref, h1], h2⟩
theorem okv_derefs_0 {h : List Hd} {post : List D → En → Prop} : Okw (derefs h) ρ post ↔ Sow (derefs1 ρ h) fun d => post d ρ := by
  constructor
  · rintro ⟨a, ρ', h1, h2⟩
    unfold derefs at h1
    cases h3 : derefs1 ρ h with
    | none => simp [Ifw, Chw, Bow, Itw, Sow, h3] at h1
    | some d =>
      simp [Ifw, Chw, Bow, Itw, Sow, h3] at h1
      obtain ⟨rfl, rfl⟩ := h1
      exact ⟨d, rfl, h2⟩
  · rintro ⟨d, h1, h2⟩
    exact ⟨d, ρ, by simp [Ifw, Chw, Bow, Itw, Sow, derefs, h1], h2⟩
theorem okv_freeze_val_0 {d : D} {post : D → En → Prop} : Okw (freeze (.val d)) ρ post ↔ post d ρ := by
  constructor
  · rintro ⟨b, ρ2, h, q⟩
    cases h
    exact q
  · exact fun h => ⟨d, ρ, rfl, h⟩
@[simp] def frz1 (ρ : En) (i : Nat) : Option (D × En) := match ρ[i]? with
  | some (.own false o) => some (o.toD, ρ.set i (.v o.toD))
  | some (.v d) => some (d, ρ)
  | _ => none
theorem okv_freeze_slot_0 {i : Nat} {post : D → En → Prop} : Okw (freeze (.slot i)) ρ post ↔ Sow (frz1 ρ i) fun p => post p.1 p.2 := by
  have e : freeze (.slot i) ρ = (frz1 ρ i).map fun p => .ok p.1 p.2 := by
    show (match ρ[i]? with
      | some (.own false o) => some (R3.ok o.toD (ρ.set i (.v o.toD)))
      | some (.v d) => some (.ok d ρ)
      | _ => none) = _
    unfold frz1
    cases ρ[i]? with
    | none => rfl
    | some s =>
      cases s with
      | no => rfl
      | v d => rfl
      | own l o => cases l <;> rfl
  constructor
  · rintro ⟨a, ρ', h1, h2⟩
    rw [e] at h1
    obtain ⟨p, h3, h4⟩ := map_some h1
    cases h4
    exact ⟨p, h3, h2⟩
  · rintro ⟨p, h1, h2⟩
    exact ⟨p.1, p.2, by rw [e, h1]; rfl, h2⟩
theorem okv_freezes_nil_0 {post : List D → En → Prop} : Okw (freezes []) ρ post ↔ post [] ρ := okv_pure_0
theorem okv_freezes_cons_0 {h : Hd} {hs : List Hd} {post : List D → En → Prop} : Okw (freezes (h :: hs)) ρ post ↔ Okw (freeze h) ρ fun d ρ1 => Okw (freezes hs) ρ1 fun ds ρ2 => post (d :: ds) ρ2 := by
  show Okw (Mo.bind (freeze h) fun d => Mo.bind (freezes hs) fun ds => Mo.pure (d :: ds)) ρ post ↔ _
  simp only [okv_bind_0, okv_pure_0]
@[simp] def rdv (ρ : En) (i : Nat) : Option Hd := match ρ[i]? with
  | some (.v d) => some (.val d)
  | some (.own _ _) => some (.slot i)
  | _ => none
theorem okv_readVar_0 {i : Nat} {post : Hd → En → Prop} : Okw (readVar i) ρ post ↔ Sow (rdv ρ i) fun h => post h ρ := by
  have e : readVar i ρ = (rdv ρ i).map fun h => .ok h ρ := by
    unfold readVar rdv
    cases ρ[i]? with
    | none => rfl
    | some s => cases s <;> rfl
  constructor
  · rintro ⟨a, ρ', h1, h2⟩
    rw [e] at h1
    obtain ⟨p, h3, h4⟩ := map_some h1
    cases h4
    exact ⟨_, h3, h2⟩
  · rintro ⟨p, h1, h2⟩
    exact ⟨p, ρ, by rw [e, h1]; rfl, h2⟩
@[simp] def cal (F : Fn) (hs : List Hd) (ρ : En) : Option (List Sl) := match apart hs with
  | true => lend ρ hs
  | false => none
theorem okv_callF_0 {F : Fn} {hs : List Hd} {post : Fr → En → Prop} : Okw (callF F hs) ρ post ↔ ∃ sl fr sl' ρ', cal F hs ρ = some sl ∧ F sl = some (.ok fr sl') ∧ back ρ hs sl' = some ρ' ∧ post fr ρ' := by
  constructor
  · rintro ⟨a, ρ', h1, h2⟩
    unfold callF at h1
    cases hl : lend ρ hs with
    | none => simp [Ifw, Chw, Bow, Itw, Sow, hl] at h1
    | some sl =>
      cases ha : apart hs with
      | false => simp [Ifw, Chw, Bow, Itw, Sow, hl, ha] at h1
      | true =>
        cases hF : F sl with
        | none => simp [Ifw, Chw, Bow, Itw, Sow, hl, ha, hF] at h1
        | some r =>
          cases r with
          | ok d sl' =>
            cases hb : back ρ hs sl' with
            | none => simp [Ifw, Chw, Bow, Itw, Sow, hl, ha, hF, hb] at h1
            | some ρ2 =>
              simp [Ifw, Chw, Bow, Itw, Sow, hl, ha, hF, hb] at h1
              obtain ⟨rfl, rfl⟩ := h1
              exact ⟨sl, d, sl', ρ2, by simp [Ifw, Chw, Bow, Itw, Sow, cal, ha, hl], hF, hb, h2⟩
          | ex x sl' => cases hb : back ρ hs sl' <;> simp [Ifw, Chw, Bow, Itw, Sow, hl, ha, hF, hb] at h1
  · rintro ⟨sl, fr, sl', ρ', h1, h2, h3, h4⟩
    unfold cal at h1
    cases ha : apart hs with
    | false => simp [Ifw, Chw, Bow, Itw, Sow, ha] at h1
    | true =>
      simp [Ifw, Chw, Bow, Itw, Sow, ha] at h1
      exact ⟨fr, ρ', by simp [Ifw, Chw, Bow, Itw, Sow, callF, h1, ha, h2, h3], h4⟩
/-! ### expressions -/
variable {a b c : E} {post : Hd → En → Prop} {pB : Bool → En → Prop} {pN : Fr → En → Prop}
theorem v_var_0 {i : Nat} : Okw (E.var i).sm.v ρ post ↔ Sow (rdv ρ i) fun h => post h ρ := okv_readVar_0
theorem v_con_0 {d : D} : Okw (E.con d).sm.v ρ post ↔ post (.val d) ρ := okv_pure_0
theorem okv_opM_0 {op : D → D → Option D} {f g : Mo Hd} : Okw (opM op f g) ρ post ↔ Okw f ρ fun h ρ1 => Okw g ρ1 fun k ρ2 => Sow (deref1 ρ2 h) fun x => Sow (deref1 ρ2 k) fun y => Sow (op x y) fun d => post (.val d) ρ2 := by
  unfold opM
  simp only [okv_bind_0, okv_deref_0, okv_lift_0, okv_pure_0]
theorem v_op_0 {o : Bop} : Okw (E.op o a b).sm.v ρ post ↔ Okw a.sm.v ρ fun h ρ1 => Okw b.sm.v ρ1 fun k ρ2 => Sow (deref1 ρ2 h) fun x => Sow (deref1 ρ2 k) fun y => Sow (o.op x y) fun d => post (.val d) ρ2 := by
  have e : (E.op o a b).sm.v = opM o.op a.sm.v b.sm.v := by cases o <;> rfl
  rw [e]
  exact okv_opM_0
theorem v_cmp_0 {o : Bop} : Okw (E.cmp o a b).sm.v ρ post ↔ Okw a.sm.v ρ fun h ρ1 => Okw b.sm.v ρ1 fun k ρ2 => Sow (deref1 ρ2 h) fun x => Sow (deref1 ρ2 k) fun y => Sow (o.op x y) fun d => post (.val d) ρ2 := okv_opM_0
theorem v_idx_0 : Okw (E.idx a b).sm.v ρ post ↔ Okw a.sm.v ρ fun h ρ1 => Okw b.sm.v ρ1 fun k ρ2 => Sow (deref1 ρ2 h) fun x => Sow (deref1 ρ2 k) fun y => Sow (idxD x y) fun d => post (.val d) ρ2 := okv_opM_0
theorem v_stp_0 : Okw (E.stp a b).sm.v ρ post ↔ Okw a.sm.v ρ fun h ρ1 => Okw b.sm.v ρ1 fun k ρ2 => Sow (deref1 ρ2 h) fun x => Sow (deref1 ρ2 k) fun y => Sow (stpD x y) fun d => post (.val d) ρ2 := okv_opM_0
theorem v_chain_0 {o o' : Bop} : Okw (E.chain o o' a b c).sm.v ρ post ↔ Okw a.sm.v ρ fun h ρ1 => Okw b.sm.v ρ1 fun k ρ2 => Sow (deref1 ρ2 h) fun x => Sow (deref1 ρ2 k) fun y => Sow (o.op x y) fun z => Chw z (post (.val (.bl false)) ρ2) (Okw c.sm.v ρ2 fun l ρ3 => Sow (deref1 ρ3 k) fun y => Sow (deref1 ρ3 l) fun w => Sow (o'.op y w) fun d => post (.val d) ρ3) := by
  show Okw (chainM _ _ _ _ _) ρ post ↔ _
  unfold chainM
  simp only [okv_bind_0, okv_deref_0, okv_lift_0, okv_pure_0]
  refine iff_of_eq (congrArg _ (funext fun h => funext fun ρ1 => congrArg _ (funext fun k => funext fun ρ2 => ?_)))
  refine propext (exists_congr fun x => and_congr_right fun _ => exists_congr fun y => and_congr_right fun _ => exists_congr fun z => and_congr_right fun _ => ?_)
  cases z with
  | bl q => cases q <;> simp [Ifw, Chw, Bow, Itw, Sow, okv_bind_0, okv_deref_0, okv_lift_0, okv_pure_0]
  | _ => simp [Ifw, Chw, Bow, Itw, Sow, okv_lift_0, Chw]
theorem v_neg_0 : Okw (E.neg a).sm.v ρ post ↔ Okw a.sm.v ρ fun h ρ1 => Sow (deref1 ρ1 h) fun x => Sow (negD x) fun d => post (.val d) ρ1 := by
  show Okw (unM _ _) ρ post ↔ _
  unfold unM
  simp only [okv_bind_0, okv_deref_0, okv_lift_0, okv_pure_0]
theorem okv_valB_0 {f : Mo Hd} : Okw (valB f) ρ pB ↔ Okw f ρ fun h ρ1 => Sow (deref1 ρ1 h) fun x => Sow (truD x) fun k => pB k ρ1 := by
  unfold valB
  simp only [okv_bind_0, okv_deref_0, okv_lift_0]
theorem v_not_0 : Okw (E.not a).sm.v ρ post ↔ Okw a.sm.v ρ fun h ρ1 => Sow (deref1 ρ1 h) fun x => Sow (truD x) fun k => post (.val (.bl (!k))) ρ1 := by
  show Okw (notM _) ρ post ↔ _
  unfold notM
  simp only [okv_bind_0, okv_pure_0, okv_valB_0]
theorem v_and_0 : Okw (E.and a b).sm.v ρ post ↔ Okw a.sm.v ρ fun h ρ1 => Sow (deref1 ρ1 h) fun x => Sow (truD x) fun k => Ifw k (Okw b.sm.v ρ1 post) (post h ρ1) := by
  show Okw (andM _ _) ρ post ↔ _
  unfold andM
  simp only [okv_bind_0, okv_deref_0, okv_lift_0]
  refine iff_of_eq (congrArg _ (funext fun h => funext fun ρ1 => propext (exists_congr fun x => and_congr_right fun _ => exists_congr fun k => and_congr_right fun _ => ?_)))
  cases k <;> simp [Ifw, Chw, Bow, Itw, Sow, okv_pure_0]
theorem v_or_0 : Okw (E.or a b).sm.v ρ post ↔ Okw a.sm.v ρ fun h ρ1 => Sow (deref1 ρ1 h) fun x => Sow (truD x) fun k => Ifw k (post h ρ1) (Okw b.sm.v ρ1 post) := by
  show Okw (orM _ _) ρ post ↔ _
  unfold orM
  simp only [okv_bind_0, okv_deref_0, okv_lift_0]
  refine iff_of_eq (congrArg _ (funext fun h => funext fun ρ1 => propext (exists_congr fun x => and_congr_right fun _ => exists_congr fun k => and_congr_right fun _ => ?_)))
  cases k <;> simp [Ifw, Chw, Bow, Itw, Sow, okv_pure_0]
theorem v_ite_0 : Okw (E.ite c a b).sm.v ρ post ↔ Okw c.sm.b ρ fun k ρ1 => Ifw k (Okw a.sm.v ρ1 post) (Okw b.sm.v ρ1 post) := by
  show Okw (iteM _ _ _) ρ post ↔ _
  unfold iteM
  simp only [okv_bind_0]
  refine iff_of_eq (congrArg _ (funext fun k => funext fun ρ1 => ?_))
  cases k <;> simp [Ifw, Chw, Bow, Itw, Sow]
variable {es ks : Es} {pS : List Hd → En → Prop}
theorem vs_nil_0 : Okw Es.nil.vs ρ pS ↔ pS [] ρ := okv_pure_0
theorem vs_cons_0 : Okw (Es.cons a es).vs ρ pS ↔ Okw a.sm.v ρ fun h ρ1 => Okw es.vs ρ1 fun hs ρ2 => pS (h :: hs) ρ2 := by
  show Okw (consM _ _) ρ pS ↔ _
  unfold consM
  simp only [okv_bind_0, okv_pure_0]
theorem ns_nil_0 {p : List Fr → En → Prop} : Okw Es.nil.ns ρ p ↔ p [] ρ := okv_pure_0
theorem ns_cons_0 {p : List Fr → En → Prop} : Okw (Es.cons a es).ns ρ p ↔ Okw a.sm.n ρ fun h ρ1 => Okw es.ns ρ1 fun hs ρ2 => p (h :: hs) ρ2 := by
  show Okw (consM _ _) ρ p ↔ _
  unfold consM
  simp only [okv_bind_0, okv_pure_0]
theorem v_tup_0 : Okw (E.tup es).sm.v ρ post ↔ Okw es.vs ρ fun hs ρ1 => Okw (freezes hs) ρ1 fun ds ρ2 => ds.length ≤ sizeLine ∧ post (.val (.tup ds)) ρ2 := by
  show Okw (tupM _) ρ post ↔ _
  unfold tupM
  simp only [okv_bind_0, okv_lift_0, okv_pure_0]
  refine iff_of_eq (congrArg _ (funext fun h => funext fun ρ1 => congrArg _ (funext fun k => funext fun ρ2 => ?_)))
  by_cases h : k.length ≤ sizeLine <;> simp [Ifw, Chw, Bow, Itw, Sow, h]
theorem n_lst_0 : Okw (E.lst es).sm.n ρ pN ↔ Okw es.vs ρ fun hs ρ1 => Okw (freezes hs) ρ1 fun ds ρ2 => ds.length ≤ sizeLine ∧ pN (.new (.lst ds)) ρ2 := by
  show Okw (lstN _) ρ pN ↔ _
  unfold lstN
  simp only [okv_bind_0, okv_lift_0, okv_pure_0]
  refine iff_of_eq (congrArg _ (funext fun h => funext fun ρ1 => congrArg _ (funext fun k => funext fun ρ2 => ?_)))
  by_cases h : k.length ≤ sizeLine <;> simp [Ifw, Chw, Bow, Itw, Sow, h]
theorem okv_valN_0 {f : Mo Fr} : Okw (valN f) ρ post ↔ Okw f ρ fun fr ρ1 => post (.val fr.toD) ρ1 := by
  unfold valN
  simp only [okv_bind_0, okv_pure_0]
theorem v_lst_0 : Okw (E.lst es).sm.v ρ post ↔ Okw (E.lst es).sm.n ρ fun fr ρ1 => post (.val fr.toD) ρ1 := okv_valN_0
theorem v_call_0 {F : Fn} : Okw (E.call F es ks).sm.v ρ post ↔ Okw (E.call F es ks).sm.n ρ fun fr ρ1 => post (.val fr.toD) ρ1 := okv_valN_0
theorem n_call_0 {F : Fn} : Okw (E.call F es ks).sm.n ρ pN ↔ Okw es.vs ρ fun hs ρ1 => Okw ks.vs ρ1 fun ls ρ2 => Okw (callF F (hs ++ ls)) ρ2 pN := by
  show Okw (callM F (appM _ _)) ρ pN ↔ _
  unfold callM appM
  simp only [okv_bind_0, okv_pure_0]
theorem okv_frzN_0 {f : Mo Hd} : Okw (frzN f) ρ pN ↔ Okw f ρ fun h ρ1 => Okw (freeze h) ρ1 fun d ρ2 => pN (.dat d) ρ2 := by
  unfold frzN
  simp only [okv_bind_0, okv_pure_0]
theorem v_isi_0 {t : Ty} : Okw (E.isi t a).sm.v ρ post ↔ Okw a.sm.v ρ fun h ρ1 => Sow (deref1 ρ1 h) fun x => Sow (isiD t x) fun k => post (.val (.bl k)) ρ1 := by
  show Okw (isiM _ _) ρ post ↔ _
  unfold isiM
  simp only [okv_bind_0, okv_deref_0, okv_lift_0, okv_pure_0]
theorem okv_biM_0 {fn : List D → Option D} {g : Mo (List Hd)} : Okw (biM fn g) ρ post ↔ Okw g ρ fun hs ρ1 => Sow (derefs1 ρ1 hs) fun ds => Sow (fn ds) fun d => post (.val d) ρ1 := by
  unfold biM
  simp only [okv_bind_0, okv_derefs_0, okv_lift_0, okv_pure_0]
theorem okv_callN_0 {fn : List D → Option D} {g : Mo (List Hd)} : Okw (callN fn g) ρ pN ↔ Okw g ρ fun hs ρ1 => Sow (derefs1 ρ1 hs) fun ds => Sow (fn ds) fun d => pN (freshL d) ρ1 := by
  unfold callN
  simp only [okv_bind_0, okv_derefs_0, okv_lift_0, okv_pure_0]
theorem freshL_toD_0 {d : D} : (freshL d).toD = d := by cases d <;> rfl
theorem v_bi_0 {q : Bi} : Okw (E.bi q es).sm.v ρ post ↔ Okw es.vs ρ fun hs ρ1 => Sow (derefs1 ρ1 hs) fun ds => Sow (q.fn ds) fun d => post (.val d) ρ1 := by
  by_cases h : q = .list
  · subst h
    show Okw (valN (callN listB es.vs)) ρ post ↔ _
    simp only [okv_valN_0, okv_callN_0, freshL_toD_0]
    rfl
  · rw [sm_bi q es h]
    exact okv_biM_0
theorem v_sli_0 {lo hi : Oe} {post : Hd → En → Prop} : Okw (E.sli a lo hi).sm.v ρ post ↔ Okw a.sm.v ρ fun h ρ1 => Okw (prtM lo.v) ρ1 fun l ρ2 => Okw (prtM hi.v) ρ2 fun u ρ3 => Sow (deref1 ρ3 h) fun x => Sow (sliD x l u) fun d => post (.val d) ρ3 := by
  show Okw (sliM _ _ _) ρ post ↔ _
  unfold sliM
  simp only [okv_bind_0, okv_deref_0, okv_lift_0, okv_pure_0]
theorem prt_no_0 {p : Option Int → En → Prop} : Okw (prtM Oe.no.v) ρ p ↔ p none ρ := okv_pure_0
theorem prt_so_0 {p : Option Int → En → Prop} : Okw (prtM (Oe.so a).v) ρ p ↔ Okw a.sm.v ρ fun h ρ1 => Sow (deref1 ρ1 h) fun x => Itw x fun i => p (some i) ρ1 := by
  show Okw (prtM (some a.sm.v)) ρ p ↔ _
  unfold prtM
  simp only [okv_bind_0, okv_deref_0]
  refine iff_of_eq (congrArg _ (funext fun h => funext fun ρ1 => propext (exists_congr fun x => and_congr_right fun _ => ?_)))
  cases x <;> simp [Ifw, Chw, Bow, Itw, Sow, okv_pure_0, okv_lift_0, Itw]
theorem v_join_0 : Okw (E.join a b).sm.v ρ post ↔ Okw a.sm.v ρ fun h ρ1 => Sow (deref1 ρ1 h) fun x => isS x = true ∧ Okw b.sm.v ρ1 fun k ρ2 => Sow (deref1 ρ2 k) fun y => Sow (joinD x y) fun d => post (.val d) ρ2 := by
  show Okw (met1 _ _ _) ρ post ↔ _
  unfold met1
  simp only [okv_bind_0, okv_deref_0]
  refine iff_of_eq (congrArg _ (funext fun h => funext fun ρ1 => propext (exists_congr fun x => and_congr_right fun _ => ?_)))
  cases hs : isS x <;> simp [hs, Ifw, Chw, Bow, Itw, Sow, okv_bind_0, okv_deref_0, okv_lift_0, okv_pure_0]
theorem v_up_0 : Okw (E.up a).sm.v ρ post ↔ Okw a.sm.v ρ fun h ρ1 => Sow (deref1 ρ1 h) fun x => isS x = true ∧ Sow (upD x) fun d => post (.val d) ρ1 := by
  show Okw (met0 _ _) ρ post ↔ _
  unfold met0
  simp only [okv_bind_0, okv_deref_0]
  refine iff_of_eq (congrArg _ (funext fun h => funext fun ρ1 => propext (exists_congr fun x => and_congr_right fun _ => ?_)))
  cases hs : isS x <;> simp [hs, Ifw, Chw, Bow, Itw, Sow, okv_bind_0, okv_lift_0, okv_pure_0]
theorem v_dic_0 : Okw E.dic.sm.v ρ post ↔ post (.val (.dct [])) ρ := okv_pure_0
end
section
variable {ρ : En} {a b c : E} {es ks : Es} {post : Hd → En → Prop} {pB : Bool → En → Prop} {pN : Fr → En → Prop} {pF : Fl → En → Prop}
/-! ### tests -/
theorem okv_tstB_0 {f : Mo Hd} : Okw (tstB f) ρ pB ↔ Okw f ρ fun h ρ1 => Bow h fun k => pB k ρ1 := by
  unfold tstB
  simp only [okv_bind_0]
  refine iff_of_eq (congrArg _ (funext fun h => funext fun ρ1 => ?_))
  cases h with
  | slot i => simp [Ifw, Chw, Bow, Itw, Sow, okv_lift_0, Bow]
  | val d => cases d <;> simp [Ifw, Chw, Bow, Itw, Sow, okv_pure_0, okv_lift_0, Bow]
theorem b_cmp_0 {o : Bop} : Okw (E.cmp o a b).sm.b ρ pB ↔ Okw (E.cmp o a b).sm.v ρ fun h ρ1 => Bow h fun k => pB k ρ1 := okv_tstB_0
theorem b_chain_0 {o o' : Bop} : Okw (E.chain o o' a b c).sm.b ρ pB ↔ Okw (E.chain o o' a b c).sm.v ρ fun h ρ1 => Bow h fun k => pB k ρ1 := okv_tstB_0
theorem b_and_0 : Okw (E.and a b).sm.b ρ pB ↔ Okw a.sm.b ρ fun k ρ1 => Ifw k (Okw b.sm.b ρ1 pB) (pB false ρ1) := by
  show Okw (andB _ _) ρ pB ↔ _
  unfold andB
  simp only [okv_bind_0]
  refine iff_of_eq (congrArg _ (funext fun k => funext fun ρ1 => ?_))
  cases k <;> simp [Ifw, Chw, Bow, Itw, Sow, okv_pure_0]
theorem b_or_0 : Okw (E.or a b).sm.b ρ pB ↔ Okw a.sm.b ρ fun k ρ1 => Ifw k (pB true ρ1) (Okw b.sm.b ρ1 pB) := by
  show Okw (orB _ _) ρ pB ↔ _
  unfold orB
  simp only [okv_bind_0]
  refine iff_of_eq (congrArg _ (funext fun k => funext fun ρ1 => ?_))
  cases k <;> simp [Ifw, Chw, Bow, Itw, Sow, okv_pure_0]
theorem b_not_0 : Okw (E.not a).sm.b ρ pB ↔ Okw a.sm.b ρ fun k ρ1 => pB (!k) ρ1 := by
  show Okw (notB _) ρ pB ↔ _
  unfold notB
  simp only [okv_bind_0, okv_pure_0]
theorem b_ite_0 : Okw (E.ite c a b).sm.b ρ pB ↔ Okw c.sm.b ρ fun k ρ1 => Ifw k (Okw a.sm.b ρ1 pB) (Okw b.sm.b ρ1 pB) := by
  show Okw (iteB _ _ _) ρ pB ↔ _
  unfold iteB
  simp only [okv_bind_0]
  refine iff_of_eq (congrArg _ (funext fun k => funext fun ρ1 => ?_))
  cases k <;> simp [Ifw, Chw, Bow, Itw, Sow]
/-- a test by its value -/
def Bv (e : E) : Prop := e.sm.b = valB e.sm.v
theorem b_val_0 {e : E} (h : Bv e) : Okw e.sm.b ρ pB ↔ Okw e.sm.v ρ fun h ρ1 => Sow (deref1 ρ1 h) fun x => Sow (truD x) fun k => pB k ρ1 := by
  rw [h]
  exact okv_valB_0
theorem b_var_0 {i : Nat} : Okw (E.var i).sm.b ρ pB ↔ Okw (E.var i).sm.v ρ fun h ρ1 => Sow (deref1 ρ1 h) fun x => Sow (truD x) fun k => pB k ρ1 := okv_valB_0
theorem b_con_0 {d : D} : Okw (E.con d).sm.b ρ pB ↔ Okw (E.con d).sm.v ρ fun h ρ1 => Sow (deref1 ρ1 h) fun x => Sow (truD x) fun k => pB k ρ1 := by
  show Okw (valB (Mo.pure (Hd.val d))) ρ pB ↔ Okw (Mo.pure (Hd.val d)) ρ _
  exact okv_valB_0
theorem b_isi_0 {t : Ty} : Okw (E.isi t a).sm.b ρ pB ↔ Okw (E.isi t a).sm.v ρ fun h ρ1 => Sow (deref1 ρ1 h) fun x => Sow (truD x) fun k => pB k ρ1 := okv_valB_0
theorem b_idx_0 : Okw (E.idx a b).sm.b ρ pB ↔ Okw (E.idx a b).sm.v ρ fun h ρ1 => Sow (deref1 ρ1 h) fun x => Sow (truD x) fun k => pB k ρ1 := okv_valB_0
theorem b_call_0 {F : Fn} : Okw (E.call F es ks).sm.b ρ pB ↔ Okw (E.call F es ks).sm.v ρ fun h ρ1 => Sow (deref1 ρ1 h) fun x => Sow (truD x) fun k => pB k ρ1 := okv_valB_0
theorem b_bi_0 {q : Bi} : Okw (E.bi q es).sm.b ρ pB ↔ Okw (E.bi q es).sm.v ρ fun h ρ1 => Sow (deref1 ρ1 h) fun x => Sow (truD x) fun k => pB k ρ1 := by
  by_cases h : q = .list
  · subst h
    exact okv_valB_0
  · rw [sm_bi q es h]
    exact okv_valB_0

/-! ### results -/
def Nd (e : E) : Prop := e.sm.n = frzN e.sm.v
theorem n_dat_0 {e : E} (h : Nd e) : Okw e.sm.n ρ pN ↔ Okw e.sm.v ρ fun h ρ1 => Okw (freeze h) ρ1 fun d ρ2 => pN (.dat d) ρ2 := by
  rw [h]
  exact okv_frzN_0
theorem n_var_0 {i : Nat} : Okw (E.var i).sm.n ρ pN ↔ Okw (E.var i).sm.v ρ fun h ρ1 => Okw (freeze h) ρ1 fun d ρ2 => pN (.dat d) ρ2 := okv_frzN_0
theorem n_con_0 {d : D} : Okw (E.con d).sm.n ρ pN ↔ pN (.dat d) ρ := by
  show Okw (frzN (Mo.pure (Hd.val d))) ρ pN ↔ _
  rw [okv_frzN_0, okv_pure_0, okv_freeze_val_0]
theorem n_cmp_0 {o : Bop} : Okw (E.cmp o a b).sm.n ρ pN ↔ Okw (E.cmp o a b).sm.v ρ fun h ρ1 => Okw (freeze h) ρ1 fun d ρ2 => pN (.dat d) ρ2 := okv_frzN_0
theorem n_chain_0 {o o' : Bop} : Okw (E.chain o o' a b c).sm.n ρ pN ↔ Okw (E.chain o o' a b c).sm.v ρ fun h ρ1 => Okw (freeze h) ρ1 fun d ρ2 => pN (.dat d) ρ2 := okv_frzN_0
theorem n_not_0 : Okw (E.not a).sm.n ρ pN ↔ Okw (E.not a).sm.v ρ fun h ρ1 => Okw (freeze h) ρ1 fun d ρ2 => pN (.dat d) ρ2 := okv_frzN_0
theorem n_and_0 : Okw (E.and a b).sm.n ρ pN ↔ Okw (E.and a b).sm.v ρ fun h ρ1 => Okw (freeze h) ρ1 fun d ρ2 => pN (.dat d) ρ2 := okv_frzN_0
theorem n_or_0 : Okw (E.or a b).sm.n ρ pN ↔ Okw (E.or a b).sm.v ρ fun h ρ1 => Okw (freeze h) ρ1 fun d ρ2 => pN (.dat d) ρ2 := okv_frzN_0
theorem n_ite_0 : Okw (E.ite c a b).sm.n ρ pN ↔ Okw (E.ite c a b).sm.v ρ fun h ρ1 => Okw (freeze h) ρ1 fun d ρ2 => pN (.dat d) ρ2 := okv_frzN_0
theorem n_tup_0 : Okw (E.tup es).sm.n ρ pN ↔ Okw (E.tup es).sm.v ρ fun h ρ1 => Okw (freeze h) ρ1 fun d ρ2 => pN (.dat d) ρ2 := okv_frzN_0
theorem n_idx_0 : Okw (E.idx a b).sm.n ρ pN ↔ Okw (E.idx a b).sm.v ρ fun h ρ1 => Okw (freeze h) ρ1 fun d ρ2 => pN (.dat d) ρ2 := okv_frzN_0
theorem n_stp_0 : Okw (E.stp a b).sm.n ρ pN ↔ Okw (E.stp a b).sm.v ρ fun h ρ1 => Okw (freeze h) ρ1 fun d ρ2 => pN (.dat d) ρ2 := okv_frzN_0
theorem n_sli_0 {lo hi : Oe} : Okw (E.sli a lo hi).sm.n ρ pN ↔ Okw (E.sli a lo hi).sm.v ρ fun h ρ1 => Okw (freeze h) ρ1 fun d ρ2 => pN (.dat d) ρ2 := okv_frzN_0
theorem n_isi_0 {t : Ty} : Okw (E.isi t a).sm.n ρ pN ↔ Okw (E.isi t a).sm.v ρ fun h ρ1 => Okw (freeze h) ρ1 fun d ρ2 => pN (.dat d) ρ2 := okv_frzN_0
theorem n_join_0 : Okw (E.join a b).sm.n ρ pN ↔ Okw (E.join a b).sm.v ρ fun h ρ1 => Okw (freeze h) ρ1 fun d ρ2 => pN (.dat d) ρ2 := okv_frzN_0
theorem n_neg_0 : Okw (E.neg a).sm.n ρ pN ↔ Okw (E.neg a).sm.v ρ fun h ρ1 => Okw (freeze h) ρ1 fun d ρ2 => pN (.dat d) ρ2 := okv_frzN_0
theorem n_list_0 : Okw (E.bi .list es).sm.n ρ pN ↔ Okw es.vs ρ fun hs ρ1 => Sow (derefs1 ρ1 hs) fun ds => Sow (listB ds) fun d => pN (freshL d) ρ1 := okv_callN_0
theorem n_bi_0 {q : Bi} (h : q ≠ .list) : Okw (E.bi q es).sm.n ρ pN ↔ Okw (E.bi q es).sm.v ρ fun h ρ1 => Okw (freeze h) ρ1 fun d ρ2 => pN (.dat d) ρ2 := by
  rw [sm_bi q es h]
  exact okv_frzN_0
theorem n_add_0 : Okw (E.op .add a b).sm.n ρ pN ↔ Okw a.sm.v ρ fun h ρ1 => Okw b.sm.v ρ1 fun k ρ2 => Sow (deref1 ρ2 h) fun x => Sow (deref1 ρ2 k) fun y => Sow (addD x y) fun d => pN (freshL d) ρ2 := by
  show Okw (opN _ _ _) ρ pN ↔ _
  unfold opN
  simp only [okv_bind_0, okv_deref_0, okv_lift_0, okv_pure_0]
theorem n_op_0 {o : Bop} (h : o ≠ .add) : Okw (E.op o a b).sm.n ρ pN ↔ Okw (E.op o a b).sm.v ρ fun h ρ1 => Okw (freeze h) ρ1 fun d ρ2 => pN (.dat d) ρ2 := by
  have e : (E.op o a b).sm.n = frzN (E.op o a b).sm.v := by cases o <;> first | rfl | exact absurd rfl h
  rw [e]
  exact okv_frzN_0
theorem n_mul_0 : Okw (E.op .mul a b).sm.n ρ pN ↔ Okw (E.op .mul a b).sm.v ρ fun h ρ1 => Okw (freeze h) ρ1 fun d ρ2 => pN (.dat d) ρ2 := okv_frzN_0
theorem n_mod_0 : Okw (E.op .mod a b).sm.n ρ pN ↔ Okw (E.op .mod a b).sm.v ρ fun h ρ1 => Okw (freeze h) ρ1 fun d ρ2 => pN (.dat d) ρ2 := okv_frzN_0
theorem n_fdiv_0 : Okw (E.op .fdiv a b).sm.n ρ pN ↔ Okw (E.op .fdiv a b).sm.v ρ fun h ρ1 => Okw (freeze h) ρ1 fun d ρ2 => pN (.dat d) ρ2 := okv_frzN_0
theorem n_sub_0 : Okw (E.op .sub a b).sm.n ρ pN ↔ Okw (E.op .sub a b).sm.v ρ fun h ρ1 => Okw (freeze h) ρ1 fun d ρ2 => pN (.dat d) ρ2 := okv_frzN_0
theorem v_lc_0 {it : Ie} {t : Tg} {own : List Nat} {o : Oe} : Okw (E.lc it t own o a).sm.v ρ post ↔ Okw (E.lc it t own o a).sm.n ρ fun fr ρ1 => post (.val fr.toD) ρ1 := okv_valN_0
/-- a comprehension, run -/
def Lcw (t : Tg) (own : List Nat) (c : Mo Bool) (e : Mo Hd) (ds : List D) (ρ : En) (p : List D → En → Prop) : Prop := plainAt ρ own = true ∧ ∃ vs ρ', lcL t own c e ds 0 (wipeE ρ own) = some (vs, ρ') ∧ p vs (unwipe ρ' ρ own)
theorem n_lc_0 {it : Ie} {t : Tg} {own : List Nat} {o : Oe} : Okw (E.lc it t own o a).sm.n ρ pN ↔ Okw it.ds ρ fun ds ρ1 => Lcw t own o.b a.sm.v ds ρ1 fun vs ρ2 => pN (.new (.lst vs)) ρ2 := by
  show Okw (lcM _ _ _ _ _) ρ pN ↔ _
  unfold lcM
  rw [okv_bind_0]
  refine iff_of_eq (congrArg _ (funext fun ds => funext fun ρ1 => propext ?_))
  constructor
  · rintro ⟨x, ρ', h, q⟩
    cases hp : plainAt ρ1 own with
    | false => simp [Ifw, Chw, Bow, Itw, Sow, hp] at h
    | true =>
      cases hl : lcL t own o.b a.sm.v ds 0 (wipeE ρ1 own) with
      | none => simp [Ifw, Chw, Bow, Itw, Sow, hp, hl] at h
      | some z =>
        simp [Ifw, Chw, Bow, Itw, Sow, hp, hl] at h
        obtain ⟨rfl, rfl⟩ := h
        exact ⟨hp, z.1, z.2, by rw [hl], q⟩
  · rintro ⟨hp, vs, ρ', hl, q⟩
    exact ⟨_, _, by simp [Ifw, Chw, Bow, Itw, Sow, hp, hl], q⟩
theorem ds_seq_0 : ∀ {p : List D → En → Prop}, Okw (Ie.seq a).ds ρ p ↔ Okw a.sm.v ρ fun h ρ1 => Okw (freeze h) ρ1 fun d ρ2 => Sow (seqD d) fun ds => p ds ρ2 := fun {p} => by
  show Okw (seqM _) ρ p ↔ _
  unfold seqM
  simp only [okv_bind_0, okv_lift_0]
theorem okv_itM_0 {k : List D → Option (List D)} {g : Mo (List Hd)} {p : List D → En → Prop} : Okw (itM k g) ρ p ↔ Okw g ρ fun hs ρ1 => Okw (freezes hs) ρ1 fun ds ρ2 => Sow (k ds) fun es => p es ρ2 := by
  unfold itM
  simp only [okv_bind_0, okv_lift_0]
theorem ds_rng1_0 {p : List D → En → Prop} : Okw (Ie.rng1 es).ds ρ p ↔ Okw es.vs ρ fun hs ρ1 => Okw (freezes hs) ρ1 fun ds ρ2 => Sow (rngK1 ds) fun es => p es ρ2 := okv_itM_0
theorem ds_rng2_0 {p : List D → En → Prop} : Okw (Ie.rng2 es).ds ρ p ↔ Okw es.vs ρ fun hs ρ1 => Okw (freezes hs) ρ1 fun ds ρ2 => Sow (rngK2 ds) fun es => p es ρ2 := okv_itM_0
theorem ds_enum_0 {p : List D → En → Prop} : Okw (Ie.enum es).ds ρ p ↔ Okw es.vs ρ fun hs ρ1 => Okw (freezes hs) ρ1 fun ds ρ2 => Sow (enumK ds) fun es => p es ρ2 := okv_itM_0
theorem ds_zip_0 {p : List D → En → Prop} : Okw (Ie.zip es).ds ρ p ↔ Okw es.vs ρ fun hs ρ1 => Okw (freezes hs) ρ1 fun ds ρ2 => Sow (zipK ds) fun es => p es ρ2 := okv_itM_0

/-! ### statements -/
theorem okv_just_0 {α : Type} {a : α} {ρ' : En} {p : α → En → Prop} : Okw (fun _ => some (.ok a ρ')) ρ p ↔ p a ρ' := by
  constructor
  · rintro ⟨x, ρ2, h, q⟩
    cases h
    exact q
  · exact fun h => ⟨a, ρ', rfl, h⟩
theorem okv_f_0 {α : Type} {f : Mo α} {a : α} {ρ' : En} {p : α → En → Prop} (e : f ρ = some (.ok a ρ')) : Okw f ρ p ↔ p a ρ' := by
  constructor
  · rintro ⟨x, ρ2, h, q⟩
    rw [e] at h
    cases h
    exact q
  · exact fun h => ⟨a, ρ', e, h⟩
theorem ss_nil_0 : Okw Ss.nil.ms ρ pF ↔ pF .nx ρ := okv_f_0 rfl
theorem ss_cons_0 {s : S} {ss : Ss} : Okw (Ss.cons s ss).ms ρ pF ↔ Okw s.ms ρ fun fl ρ1 => Seqw fl (Okw ss.ms ρ1 pF) (pF fl ρ1) := by
  show Okw (seqS _ _) ρ pF ↔ _
  constructor
  · rintro ⟨x, ρ2, h, q⟩
    unfold seqS at h
    cases h1 : s.ms ρ with
    | none => simp [Ifw, Chw, Bow, Itw, Sow, h1] at h
    | some r =>
      cases r with
      | ex x ρ1 => simp [Ifw, Chw, Bow, Itw, Sow, h1] at h
      | ok fl ρ1 =>
        cases fl with
        | nx =>
          simp [Ifw, Chw, Bow, Itw, Sow, h1] at h
          exact ⟨.nx, ρ1, h1, .inl ⟨rfl, x, ρ2, h, q⟩⟩
        | _ =>
          simp [Ifw, Chw, Bow, Itw, Sow, h1] at h
          obtain ⟨rfl, rfl⟩ := h
          exact ⟨_, _, h1, .inr ⟨by simp, q⟩⟩
  · rintro ⟨fl, ρ1, h1, ⟨rfl, x, ρ2, h2, q⟩ | ⟨h2, q⟩⟩
    · exact ⟨x, ρ2, by simp [Ifw, Chw, Bow, Itw, Sow, seqS, h1, h2], q⟩
    · refine ⟨fl, ρ1, ?_, q⟩
      cases fl <;> simp [Ifw, Chw, Bow, Itw, Sow, seqS, h1] at h2 ⊢
theorem s_asg_0 {i : Nat} : Okw (S.asg i a).ms ρ pF ↔ Okw a.sm.n ρ fun fr ρ1 => pF .nx (ρ1.set i (slotOf fr)) := by
  show Okw (Mo.bind _ _) ρ pF ↔ _
  rw [okv_bind_0]
  exact iff_of_eq (congrArg _ (funext fun fr => funext fun ρ1 => propext (okv_f_0 rfl)))
theorem s_ret_0 : Okw (S.ret a).ms ρ pF ↔ Okw a.sm.n ρ fun fr ρ1 => pF (.rt fr) ρ1 := by
  show Okw (Mo.bind _ _) ρ pF ↔ _
  rw [okv_bind_0]
  exact iff_of_eq (congrArg _ (funext fun fr => funext fun ρ1 => propext (okv_f_0 rfl)))
theorem s_expr_0 : Okw (S.expr a).ms ρ pF ↔ Okw a.sm.v ρ fun _ ρ1 => pF .nx ρ1 := by
  show Okw (Mo.bind _ _) ρ pF ↔ _
  rw [okv_bind_0]
  exact iff_of_eq (congrArg _ (funext fun fr => funext fun ρ1 => propext (okv_f_0 rfl)))
theorem okv_map_0 {α : Type} {o : Option En} {f : En → R3 α} {p : α → En → Prop} {x : α} (hf : ∀ e, f e = .ok x e) : Okw (fun _ => o.map f) ρ p ↔ ∃ ρ', o = some ρ' ∧ p x ρ' := by
  constructor
  · rintro ⟨y, ρ2, h, q⟩
    obtain ⟨e, h1, h2⟩ := map_some h
    rw [hf] at h2
    cases h2
    exact ⟨_, h1, q⟩
  · rintro ⟨ρ', rfl, q⟩
    exact ⟨x, ρ', by simp [Ifw, Chw, Bow, Itw, Sow, hf], q⟩
theorem s_asgT_0 {t : Tg} : Okw (S.asgT t a).ms ρ pF ↔ Okw a.sm.v ρ fun h ρ1 => Okw (freeze h) ρ1 fun d ρ2 => Sow (setT t d ρ2) fun ρ3 => pF .nx ρ3 := by
  show Okw (Mo.bind _ fun h => Mo.bind _ _) ρ pF ↔ _
  simp only [okv_bind_0]
  refine iff_of_eq (congrArg _ (funext fun h => funext fun ρ1 => congrArg _ (funext fun d => funext fun ρ2 => propext ?_)))
  constructor
  · rintro ⟨y, ρ3, h, q⟩
    obtain ⟨e, h1, h2⟩ := map_some h
    cases h2
    exact ⟨_, h1, q⟩
  · rintro ⟨ρ', h1, q⟩
    exact ⟨.nx, ρ', by simp [Ifw, Chw, Bow, Itw, Sow, h1], q⟩
theorem s_par_0 {is : List Nat} : Okw (S.par is es).ms ρ pF ↔ Okw es.ns ρ fun frs ρ1 => frs.length = is.length ∧ pF .nx (setAll ρ1 is frs) := by
  show Okw (Mo.bind _ _) ρ pF ↔ _
  rw [okv_bind_0]
  refine iff_of_eq (congrArg _ (funext fun frs => funext fun ρ1 => propext ?_))
  constructor
  · rintro ⟨y, ρ3, h, q⟩
    cases hl : frs.length == is.length with
    | false => simp [Ifw, Chw, Bow, Itw, Sow, hl] at h
    | true =>
      simp only [hl] at h
      cases h
      exact ⟨eq_of_beq hl, q⟩
  · rintro ⟨h1, q⟩
    exact ⟨.nx, _, by simp [Ifw, Chw, Bow, Itw, Sow, h1], q⟩
theorem s_retV_0 {i : Nat} : Okw (S.retV i).ms ρ pF ↔ Rtw ρ[i]? fun fr => pF (.rt fr) ρ := by
  show Okw (Mi.retV i) ρ pF ↔ _
  constructor
  · rintro ⟨y, ρ3, h, q⟩
    unfold Mi.retV at h
    split at h
    · rename_i d hs
      cases h
      rw [hs]
      exact q
    · rename_i o hs
      cases h
      rw [hs]
      exact q
    · cases h
  · intro h
    unfold Rtw at h
    split at h
    · rename_i d hs
      exact ⟨_, ρ, by simp [Ifw, Chw, Bow, Itw, Sow, Mi.retV, hs], h⟩
    · rename_i o hs
      exact ⟨_, ρ, by simp [Ifw, Chw, Bow, Itw, Sow, Mi.retV, hs], h⟩
    · exact h.elim
theorem s_ite_0 {s t : Ss} : Okw (S.ite c s t).ms ρ pF ↔ Okw c.sm.b ρ fun k ρ1 => Ifw k (Okw s.ms ρ1 pF) (Okw t.ms ρ1 pF) := by
  show Okw (ifM _ _ _) ρ pF ↔ _
  unfold ifM
  rw [okv_bind_0]
  refine iff_of_eq (congrArg _ (funext fun k => funext fun ρ1 => ?_))
  cases k <;> simp [Ifw, Chw, Bow, Itw, Sow]
theorem s_for_0 {it : Ie} {t : Tg} {s : Ss} : Okw (S.for it t s).ms ρ pF ↔ Okw it.ds ρ fun ds ρ1 => Okw (forL t s.ms ds) ρ1 pF := by
  show Okw (Mo.bind _ _) ρ pF ↔ _
  rw [okv_bind_0]
theorem for_nil_0 {t : Tg} {f : Ms} : Okw (forL t f []) ρ pF ↔ pF .nx ρ := okv_f_0 rfl
theorem for_cons_0 {t : Tg} {f : Ms} {d : D} {ds : List D} (h : Sow (setT t d ρ) fun ρ1 => Okw f ρ1 fun fl ρ2 => ((fl = .nx ∨ fl = .ct) ∧ Okw (forL t f ds) ρ2 pF) ∨ (fl = .bk ∧ pF .nx ρ2) ∨ ∃ r, fl = .rt r ∧ pF (.rt r) ρ2) : Okw (forL t f (d :: ds)) ρ pF := by
  obtain ⟨ρ1, h1, fl, ρ2, h2, h3⟩ := h
  rcases h3 with ⟨rfl | rfl, x, ρ3, h4, q⟩ | ⟨rfl, q⟩ | ⟨r, rfl, q⟩
  · exact ⟨x, ρ3, by simp [Ifw, Chw, Bow, Itw, Sow, forL, h1, h2, h4], q⟩
  · exact ⟨x, ρ3, by simp [Ifw, Chw, Bow, Itw, Sow, forL, h1, h2, h4], q⟩
  · exact ⟨_, ρ2, by simp [Ifw, Chw, Bow, Itw, Sow, forL, h1, h2], q⟩
  · exact ⟨_, ρ2, by simp [Ifw, Chw, Bow, Itw, Sow, forL, h1, h2], q⟩
/-- a loop that goes through -/
theorem for_inv_0 {t : Tg} {f : Ms} (P : List D → En → Prop) : ∀ {ds : List D} {ρ : En}, P ds ρ → (∀ d ds ρ, P (d :: ds) ρ → Sow (setT t d ρ) fun ρ1 => Okw f ρ1 fun fl ρ2 => (fl = .nx ∨ fl = .ct) ∧ P ds ρ2) → (∀ ρ, P [] ρ → pF .nx ρ) → Okw (forL t f ds) ρ pF
  | [], ρ, h0, hs, hd => for_nil_0.mpr (hd ρ h0)
  | d :: ds, ρ, h0, hs, hd => by
    obtain ⟨ρ1, h1, h2⟩ := hs d ds ρ h0
    exact for_cons_0 ⟨ρ1, h1, okv_imp_0 h2 fun fl ρ2 ⟨h3, h4⟩ => .inl ⟨h3, for_inv_0 P h4 hs hd⟩⟩
theorem v_app_0 {i : Nat} : Okw (E.app i a).sm.v ρ post ↔ (∃ l ds, ρ[i]? = some (.own l (.lst ds))) ∧ Okw a.sm.v ρ fun h ρ1 => Okw (freeze h) ρ1 fun d ρ2 => ∃ l ds, ρ2[i]? = some (.own l (.lst ds)) ∧ ds.length < sizeLine ∧ post (.val .non) (ρ2.set i (.own l (.lst (ds ++ [d])))) := by
  show Okw (apM i a.sm.v) ρ post ↔ _
  constructor
  · rintro ⟨x, ρ', h, q⟩
    unfold apM at h
    split at h
    · rename_i l ds h0
      refine ⟨⟨l, ds, h0⟩, ?_⟩
      have : Okw (Mo.bind a.sm.v fun h => Mo.bind (freeze h) fun d ρ => match ρ[i]? with
        | some (.own l (.lst ds)) => match decide (ds.length < sizeLine) with
          | true => some (.ok (Hd.val .non) (ρ.set i (.own l (.lst (ds ++ [d])))))
          | false => none
        | _ => none) ρ post := ⟨x, ρ', h, q⟩
      simp only [okv_bind_0] at this
      refine okv_imp_0 this fun h ρ1 this => okv_imp_0 this fun d ρ2 ⟨x, ρ', h, q⟩ => ?_
      dsimp only at h
      split at h
      · rename_i l ds h1
        by_cases hz : ds.length < sizeLine
        · simp [Ifw, Chw, Bow, Itw, Sow, hz] at h
          obtain ⟨rfl, rfl⟩ := h
          exact ⟨l, ds, h1, hz, q⟩
        · simp [Ifw, Chw, Bow, Itw, Sow, hz] at h
      · cases h
    · cases h
  · rintro ⟨⟨l, ds, h0⟩, h⟩
    have : Okw (Mo.bind a.sm.v fun h => Mo.bind (freeze h) fun d ρ => match ρ[i]? with
        | some (.own l (.lst ds)) => match decide (ds.length < sizeLine) with
          | true => some (.ok (Hd.val .non) (ρ.set i (.own l (.lst (ds ++ [d])))))
          | false => none
        | _ => none) ρ post := by
      simp only [okv_bind_0]
      refine okv_imp_0 h fun h ρ1 this => okv_imp_0 this fun d ρ2 ⟨l, ds, h1, hz, q⟩ => ?_
      exact ⟨.val .non, _, by simp [Ifw, Chw, Bow, Itw, Sow, h1, hz], q⟩
    obtain ⟨x, ρ', h1, q⟩ := this
    refine ⟨x, ρ', ?_, q⟩
    unfold apM
    rw [h0]
    exact h1
theorem s_set_0 {i : Nat} (h0 : ∃ l ds, ρ[i]? = some (.own l (.lst ds))) (h : Okw a.sm.v ρ fun h ρ1 => Okw (freeze h) ρ1 fun d ρ2 => (∃ l ds, ρ2[i]? = some (.own l (.lst ds))) ∧ Okw b.sm.v ρ2 fun h2 ρ3 => ∃ k, deref1 ρ3 h2 = some (.int k) ∧ ∃ l ds j, ρ3[i]? = some (.own l (.lst ds)) ∧ ixN ds.length k = some j ∧ pF .nx (ρ3.set i (.own l (.lst (ds.set j d))))) : Okw (S.set i b a).ms ρ pF := by
  show Okw (setM i a.sm.v b.sm.v) ρ pF
  unfold setM
  simp only [okv_bind_0]
  refine okv_imp_0 h fun h ρ1 this => okv_imp_0 this fun d ρ2 ⟨⟨l, ds, h1⟩, this⟩ => ?_
  have : Okw (Mo.bind b.sm.v fun h2 => Mo.bind (deref h2) fun k ρ => match ρ[i]?, k with
    | some (.own l (.lst ds)), .int k => match ixN ds.length k with
      | some j => some (.ok Fl.nx (ρ.set i (.own l (.lst (ds.set j d)))))
      | none => none
    | _, _ => none) ρ2 pF := by
    simp only [okv_bind_0, okv_deref_0]
    refine okv_imp_0 this fun h2 ρ3 ⟨k, h3, l, ds, j, h4, h5, q⟩ => ⟨.int k, h3, .nx, _, ?_, q⟩
    simp only [h4, h5]
  obtain ⟨x, ρ', h2, q⟩ := this
  refine ⟨x, ρ', ?_, q⟩
  simp only [h1]
  exact h2
theorem s_aug_0 {i : Nat} {o : Aop} {x : Int} (h0 : ρ[i]? = some (.v (.int x))) : Okw (S.aug i o a).ms ρ pF ↔ Okw a.sm.v ρ fun h ρ1 => ∃ y, deref1 ρ1 h = some (.int y) ∧ pF .nx (ρ1.set i (.v (.int (o.f x y)))) := by
  have e : (S.aug i o a).ms ρ = (Mo.bind a.sm.v fun h => Mo.bind (deref h) fun d ρ => match d with
    | .int b => some (.ok Fl.nx (ρ.set i (.v (.int (o.f x b)))))
    | _ => none) ρ := by
    show augM i o.f a.sm.v ρ = _
    unfold augM
    rw [h0]
    all_goals rfl
  have e2 : Okw (S.aug i o a).ms ρ pF ↔ Okw (Mo.bind a.sm.v fun h => Mo.bind (deref h) fun d ρ => match d with
    | .int b => some (.ok Fl.nx (ρ.set i (.v (.int (o.f x b)))))
    | _ => none) ρ pF := by
    unfold Okw
    rw [e]
  rw [e2]
  simp only [okv_bind_0, okv_deref_0]
  refine iff_of_eq (congrArg _ (funext fun h => funext fun ρ1 => propext ?_))
  constructor
  · rintro ⟨d, h1, y, ρ2, h2, q⟩
    cases d with
    | int b =>
      cases h2
      exact ⟨b, h1, q⟩
    | _ => cases h2
  · rintro ⟨y, h1, q⟩
    exact ⟨_, h1, _, _, rfl, q⟩
end

/-! ### functions -/
def Fow (F : Fn) (sl : List Sl) (p : Fr → List Sl → Prop) : Prop := ∃ fr sl', F sl = some (.ok fr sl') ∧ p fr sl'
theorem okv_callF'_0 {F : Fn} {hs : List Hd} {ρ : En} {post : Fr → En → Prop} : Okw (callF F hs) ρ post ↔ Sow (cal F hs ρ) fun sl => Fow F sl fun fr sl' => ∃ ρ', back ρ hs sl' = some ρ' ∧ post fr ρ' := by
  rw [okv_callF_0]
  constructor
  · rintro ⟨sl, fr, sl', ρ', h1, h2, h3, h4⟩
    exact ⟨sl, h1, fr, sl', h2, ρ', h3, h4⟩
  · rintro ⟨sl, h1, fr, sl', h2, ρ', h3, h4⟩
    exact ⟨sl, fr, sl', ρ', h1, h2, h3, h4⟩
theorem fok_imp_0 {F : Fn} {sl : List Sl} {p q : Fr → List Sl → Prop} (h : Fow F sl p) (i : ∀ fr sl', p fr sl' → q fr sl') : Fow F sl q := by
  obtain ⟨fr, sl', h1, h2⟩ := h
  exact ⟨fr, sl', h1, i _ _ h2⟩
theorem fok_run_0 {n np : Nat} {f : Ms} {sl : List Sl} {p : Fr → List Sl → Prop} (h1 : sl.length = np) (h2 : sl.all isLent = true)
    (h : Okw f (sl ++ List.replicate (n - np) .no) fun fl ρ => Sow (outSl sl ρ) fun r => ((fl = .nx ∧ p (.dat .non) r) ∨ ∃ fr, fl = .rt fr ∧ p fr r)) : Fow (runF n np f) sl p := by
  obtain ⟨fl, ρ, h3, r, h4, h5⟩ := h
  have e : (sl.length == np && sl.all isLent) = true := by simp [Ifw, Chw, Bow, Itw, Sow, h1, h2]
  rcases h5 with ⟨rfl, q⟩ | ⟨fr, rfl, q⟩
  · exact ⟨_, r, by simp only [runF, e, h3, h4]; rfl, q⟩
  · exact ⟨fr, r, by simp only [runF, e, h3, h4]; rfl, q⟩
theorem fok_eq_0 {F : Fn} {sl sl' : List Sl} {fr : Fr} {p : Fr → List Sl → Prop} (e : F sl = some (.ok fr sl')) : Fow F sl p ↔ p fr sl' := by
  constructor
  · rintro ⟨a, b, h, q⟩
    rw [e] at h
    cases h
    exact q
  · exact fun h => ⟨fr, sl', e, h⟩
theorem eq_fok_0 {F : Fn} {sl sl' : List Sl} {fr : Fr} (h : Fow F sl fun a b => a = fr ∧ b = sl') : F sl = some (.ok fr sl') := by
  obtain ⟨a, b, h1, rfl, rfl⟩ := h
  exact h1
end Mi
set_option Elab.async false
set_option linter.all false
set_option maxRecDepth 100000
set_option maxHeartbeats 2000000
/-! P1: the same, told so that only the next step is looked at -/
namespace Mi
open PySem L2

/-- what hangs on it stays as it is -/
structure Tag {α : Type} (a : α) : Type where
def Okv {α : Type} (m : Mo α) (ρ : En) (post : α → En → Prop) (t : Tag post := ⟨⟩) : Prop := Okw m ρ post
def Som {α : Type} (o : Option α) (k : α → Prop) (t : Tag k := ⟨⟩) : Prop := Sow o k
def Ifb (b : Bool) (A B : Prop) (t : Tag A := ⟨⟩) (u : Tag B := ⟨⟩) : Prop := Ifw b A B
def Bol (h : Hd) (k : Bool → Prop) (t : Tag k := ⟨⟩) : Prop := Bow h k
def Itg (d : D) (k : Int → Prop) (t : Tag k := ⟨⟩) : Prop := Itw d k
def Chn (z : D) (A B : Prop) (t : Tag A := ⟨⟩) (u : Tag B := ⟨⟩) : Prop := Chw z A B
def Seqf (fl : Fl) (A B : Prop) (t : Tag A := ⟨⟩) (u : Tag B := ⟨⟩) : Prop := Seqw fl A B
def Rtv (s : Option Sl) (k : Fr → Prop) (t : Tag k := ⟨⟩) : Prop := Rtw s k
def Lc (t : Tg) (own : List Nat) (c : Mo Bool) (e : Mo Hd) (ds : List D) (ρ : En) (p : List D → En → Prop) (u : Tag p := ⟨⟩) : Prop := Lcw t own c e ds ρ p
def Fok (F : Fn) (sl : List Sl) (p : Fr → List Sl → Prop) (t : Tag p := ⟨⟩) : Prop := Fow F sl p
@[simp] theorem som_some {α : Type} {a : α} {k : α → Prop} : Som (some a) k ↔ k a := by simp [Som, Sow]
@[simp] theorem som_none {α : Type} {k : α → Prop} : Som none k ↔ False := by simp [Som, Sow]
@[simp] theorem ifb_t {A B : Prop} : Ifb true A B ↔ A := by simp [Ifb, Ifw]
@[simp] theorem ifb_f {A B : Prop} : Ifb false A B ↔ B := by simp [Ifb, Ifw]
@[simp] theorem bol_b {b : Bool} {k : Bool → Prop} : Bol (.val (.bl b)) k ↔ k b := by simp [Bol, Bow]
@[simp] theorem itg_i {i : Int} {k : Int → Prop} : Itg (.int i) k ↔ k i := by simp [Itg, Itw]
@[simp] theorem chn_b {b : Bool} {A B : Prop} : Chn (.bl b) A B ↔ Ifb b B A := by cases b <;> simp [Chn, Chw]
@[simp] theorem seqf_n {A B : Prop} : Seqf .nx A B ↔ A := by simp [Seqf, Seqw]
@[simp] theorem seqf_r {A B : Prop} {fr : Fr} : Seqf (.rt fr) A B ↔ B := by simp [Seqf, Seqw]
@[simp] theorem seqf_b {A B : Prop} : Seqf .bk A B ↔ B := by simp [Seqf, Seqw]
@[simp] theorem seqf_c {A B : Prop} : Seqf .ct A B ↔ B := by simp [Seqf, Seqw]
@[simp] theorem rtv_v {d : D} {k : Fr → Prop} : Rtv (some (.v d)) k ↔ k (.dat d) := Iff.rfl
@[simp] theorem rtv_o {o : Ow} {k : Fr → Prop} : Rtv (some (.own false o)) k ↔ k (.new o) := Iff.rfl
section
variable {α β : Type} {ρ : En} {post : β → En → Prop}
theorem okv_bind {m : Mo α} {k : α → Mo β} : Okv (Mo.bind m k) ρ post ↔ Okv m ρ fun a ρ' => Okv (k a) ρ' post := okv_bind_0
theorem okv_pure {a : β} : Okv (Mo.pure a) ρ post ↔ post a ρ := okv_pure_0
theorem okv_lift {o : Option β} : Okv (Mo.lift o) ρ post ↔ Som (o) fun a => post a ρ := okv_lift_0
theorem okv_imp {m : Mo β} {post' : β → En → Prop} (h : Okv m ρ post) (i : ∀ a ρ', post a ρ' → post' a ρ') : Okv m ρ post' := okv_imp_0 h i
end
section
variable {ρ : En}
theorem okv_deref {h : Hd} {post : D → En → Prop} : Okv (deref h) ρ post ↔ Som (deref1 ρ h) fun d => post d ρ := okv_deref_0
theorem okv_derefs {h : List Hd} {post : List D → En → Prop} : Okv (derefs h) ρ post ↔ Som (derefs1 ρ h) fun d => post d ρ := okv_derefs_0
@[simp] theorem okv_freeze_val {d : D} {post : D → En → Prop} : Okv (freeze (.val d)) ρ post ↔ post d ρ := okv_freeze_val_0
@[simp] theorem okv_freeze_slot {i : Nat} {post : D → En → Prop} : Okv (freeze (.slot i)) ρ post ↔ Som (frz1 ρ i) fun p => post p.1 p.2 := okv_freeze_slot_0
@[simp] theorem okv_freezes_nil {post : List D → En → Prop} : Okv (freezes []) ρ post ↔ post [] ρ := okv_freezes_nil_0
@[simp] theorem okv_freezes_cons {h : Hd} {hs : List Hd} {post : List D → En → Prop} : Okv (freezes (h :: hs)) ρ post ↔ Okv (freeze h) ρ fun d ρ1 => Okv (freezes hs) ρ1 fun ds ρ2 => post (d :: ds) ρ2 := okv_freezes_cons_0
theorem okv_readVar {i : Nat} {post : Hd → En → Prop} : Okv (readVar i) ρ post ↔ Som (rdv ρ i) fun h => post h ρ := okv_readVar_0
theorem okv_callF {F : Fn} {hs : List Hd} {post : Fr → En → Prop} : Okv (callF F hs) ρ post ↔ ∃ sl fr sl' ρ', cal F hs ρ = some sl ∧ F sl = some (.ok fr sl') ∧ back ρ hs sl' = some ρ' ∧ post fr ρ' := okv_callF_0
variable {a b c : E} {post : Hd → En → Prop} {pB : Bool → En → Prop} {pN : Fr → En → Prop}
@[simp] theorem v_var {i : Nat} : Okv (E.var i).sm.v ρ post ↔ Som (rdv ρ i) fun h => post h ρ := v_var_0
@[simp] theorem v_con {d : D} : Okv (E.con d).sm.v ρ post ↔ post (.val d) ρ := v_con_0
theorem okv_opM {op : D → D → Option D} {f g : Mo Hd} : Okv (opM op f g) ρ post ↔ Okv f ρ fun h ρ1 => Okv g ρ1 fun k ρ2 => Som (deref1 ρ2 h) fun x => Som (deref1 ρ2 k) fun y => Som (op x y) fun d => post (.val d) ρ2 := okv_opM_0
@[simp] theorem v_op {o : Bop} : Okv (E.op o a b).sm.v ρ post ↔ Okv a.sm.v ρ fun h ρ1 => Okv b.sm.v ρ1 fun k ρ2 => Som (deref1 ρ2 h) fun x => Som (deref1 ρ2 k) fun y => Som (o.op x y) fun d => post (.val d) ρ2 := v_op_0
@[simp] theorem v_cmp {o : Bop} : Okv (E.cmp o a b).sm.v ρ post ↔ Okv a.sm.v ρ fun h ρ1 => Okv b.sm.v ρ1 fun k ρ2 => Som (deref1 ρ2 h) fun x => Som (deref1 ρ2 k) fun y => Som (o.op x y) fun d => post (.val d) ρ2 := v_cmp_0
@[simp] theorem v_idx : Okv (E.idx a b).sm.v ρ post ↔ Okv a.sm.v ρ fun h ρ1 => Okv b.sm.v ρ1 fun k ρ2 => Som (deref1 ρ2 h) fun x => Som (deref1 ρ2 k) fun y => Som (idxD x y) fun d => post (.val d) ρ2 := v_idx_0
@[simp] theorem v_stp : Okv (E.stp a b).sm.v ρ post ↔ Okv a.sm.v ρ fun h ρ1 => Okv b.sm.v ρ1 fun k ρ2 => Som (deref1 ρ2 h) fun x => Som (deref1 ρ2 k) fun y => Som (stpD x y) fun d => post (.val d) ρ2 := v_stp_0
@[simp] theorem v_chain {o o' : Bop} : Okv (E.chain o o' a b c).sm.v ρ post ↔ Okv a.sm.v ρ fun h ρ1 => Okv b.sm.v ρ1 fun k ρ2 => Som (deref1 ρ2 h) fun x => Som (deref1 ρ2 k) fun y => Som (o.op x y) fun z => Chn z (post (.val (.bl false)) ρ2) (Okv c.sm.v ρ2 fun l ρ3 => Som (deref1 ρ3 k) fun y => Som (deref1 ρ3 l) fun w => Som (o'.op y w) fun d => post (.val d) ρ3) := v_chain_0
@[simp] theorem v_neg : Okv (E.neg a).sm.v ρ post ↔ Okv a.sm.v ρ fun h ρ1 => Som (deref1 ρ1 h) fun x => Som (negD x) fun d => post (.val d) ρ1 := v_neg_0
theorem okv_valB {f : Mo Hd} : Okv (valB f) ρ pB ↔ Okv f ρ fun h ρ1 => Som (deref1 ρ1 h) fun x => Som (truD x) fun k => pB k ρ1 := okv_valB_0
@[simp] theorem v_not : Okv (E.not a).sm.v ρ post ↔ Okv a.sm.v ρ fun h ρ1 => Som (deref1 ρ1 h) fun x => Som (truD x) fun k => post (.val (.bl (!k))) ρ1 := v_not_0
@[simp] theorem v_and : Okv (E.and a b).sm.v ρ post ↔ Okv a.sm.v ρ fun h ρ1 => Som (deref1 ρ1 h) fun x => Som (truD x) fun k => Ifb k (Okv b.sm.v ρ1 post) (post h ρ1) := v_and_0
@[simp] theorem v_or : Okv (E.or a b).sm.v ρ post ↔ Okv a.sm.v ρ fun h ρ1 => Som (deref1 ρ1 h) fun x => Som (truD x) fun k => Ifb k (post h ρ1) (Okv b.sm.v ρ1 post) := v_or_0
@[simp] theorem v_ite : Okv (E.ite c a b).sm.v ρ post ↔ Okv c.sm.b ρ fun k ρ1 => Ifb k (Okv a.sm.v ρ1 post) (Okv b.sm.v ρ1 post) := v_ite_0
variable {es ks : Es} {pS : List Hd → En → Prop}
@[simp] theorem vs_nil : Okv Es.nil.vs ρ pS ↔ pS [] ρ := vs_nil_0
@[simp] theorem vs_cons : Okv (Es.cons a es).vs ρ pS ↔ Okv a.sm.v ρ fun h ρ1 => Okv es.vs ρ1 fun hs ρ2 => pS (h :: hs) ρ2 := vs_cons_0
@[simp] theorem ns_nil {p : List Fr → En → Prop} : Okv Es.nil.ns ρ p ↔ p [] ρ := ns_nil_0
@[simp] theorem ns_cons {p : List Fr → En → Prop} : Okv (Es.cons a es).ns ρ p ↔ Okv a.sm.n ρ fun h ρ1 => Okv es.ns ρ1 fun hs ρ2 => p (h :: hs) ρ2 := ns_cons_0
@[simp] theorem v_tup : Okv (E.tup es).sm.v ρ post ↔ Okv es.vs ρ fun hs ρ1 => Okv (freezes hs) ρ1 fun ds ρ2 => ds.length ≤ sizeLine ∧ post (.val (.tup ds)) ρ2 := v_tup_0
@[simp] theorem n_lst : Okv (E.lst es).sm.n ρ pN ↔ Okv es.vs ρ fun hs ρ1 => Okv (freezes hs) ρ1 fun ds ρ2 => ds.length ≤ sizeLine ∧ pN (.new (.lst ds)) ρ2 := n_lst_0
theorem okv_valN {f : Mo Fr} : Okv (valN f) ρ post ↔ Okv f ρ fun fr ρ1 => post (.val fr.toD) ρ1 := okv_valN_0
@[simp] theorem v_lst : Okv (E.lst es).sm.v ρ post ↔ Okv (E.lst es).sm.n ρ fun fr ρ1 => post (.val fr.toD) ρ1 := v_lst_0
@[simp] theorem v_call {F : Fn} : Okv (E.call F es ks).sm.v ρ post ↔ Okv (E.call F es ks).sm.n ρ fun fr ρ1 => post (.val fr.toD) ρ1 := v_call_0
@[simp] theorem n_call {F : Fn} : Okv (E.call F es ks).sm.n ρ pN ↔ Okv es.vs ρ fun hs ρ1 => Okv ks.vs ρ1 fun ls ρ2 => Okv (callF F (hs ++ ls)) ρ2 pN := n_call_0
theorem okv_frzN {f : Mo Hd} : Okv (frzN f) ρ pN ↔ Okv f ρ fun h ρ1 => Okv (freeze h) ρ1 fun d ρ2 => pN (.dat d) ρ2 := okv_frzN_0
@[simp] theorem v_isi {t : Ty} : Okv (E.isi t a).sm.v ρ post ↔ Okv a.sm.v ρ fun h ρ1 => Som (deref1 ρ1 h) fun x => Som (isiD t x) fun k => post (.val (.bl k)) ρ1 := v_isi_0
theorem okv_biM {fn : List D → Option D} {g : Mo (List Hd)} : Okv (biM fn g) ρ post ↔ Okv g ρ fun hs ρ1 => Som (derefs1 ρ1 hs) fun ds => Som (fn ds) fun d => post (.val d) ρ1 := okv_biM_0
theorem okv_callN {fn : List D → Option D} {g : Mo (List Hd)} : Okv (callN fn g) ρ pN ↔ Okv g ρ fun hs ρ1 => Som (derefs1 ρ1 hs) fun ds => Som (fn ds) fun d => pN (freshL d) ρ1 := okv_callN_0
@[simp] theorem freshL_toD {d : D} : (freshL d).toD = d := freshL_toD_0
@[simp] theorem v_bi {q : Bi} : Okv (E.bi q es).sm.v ρ post ↔ Okv es.vs ρ fun hs ρ1 => Som (derefs1 ρ1 hs) fun ds => Som (q.fn ds) fun d => post (.val d) ρ1 := v_bi_0
@[simp] theorem v_sli {lo hi : Oe} {post : Hd → En → Prop} : Okv (E.sli a lo hi).sm.v ρ post ↔ Okv a.sm.v ρ fun h ρ1 => Okv (prtM lo.v) ρ1 fun l ρ2 => Okv (prtM hi.v) ρ2 fun u ρ3 => Som (deref1 ρ3 h) fun x => Som (sliD x l u) fun d => post (.val d) ρ3 := v_sli_0
@[simp] theorem prt_no {p : Option Int → En → Prop} : Okv (prtM Oe.no.v) ρ p ↔ p none ρ := prt_no_0
@[simp] theorem prt_so {p : Option Int → En → Prop} : Okv (prtM (Oe.so a).v) ρ p ↔ Okv a.sm.v ρ fun h ρ1 => Som (deref1 ρ1 h) fun x => Itg x fun i => p (some i) ρ1 := prt_so_0
@[simp] theorem v_join : Okv (E.join a b).sm.v ρ post ↔ Okv a.sm.v ρ fun h ρ1 => Som (deref1 ρ1 h) fun x => isS x = true ∧ Okv b.sm.v ρ1 fun k ρ2 => Som (deref1 ρ2 k) fun y => Som (joinD x y) fun d => post (.val d) ρ2 := v_join_0
@[simp] theorem v_up : Okv (E.up a).sm.v ρ post ↔ Okv a.sm.v ρ fun h ρ1 => Som (deref1 ρ1 h) fun x => isS x = true ∧ Som (upD x) fun d => post (.val d) ρ1 := v_up_0
@[simp] theorem v_dic : Okv E.dic.sm.v ρ post ↔ post (.val (.dct [])) ρ := v_dic_0
end
section
variable {ρ : En} {a b c : E} {es ks : Es} {post : Hd → En → Prop} {pB : Bool → En → Prop} {pN : Fr → En → Prop} {pF : Fl → En → Prop}
theorem okv_tstB {f : Mo Hd} : Okv (tstB f) ρ pB ↔ Okv f ρ fun h ρ1 => Bol h fun k => pB k ρ1 := okv_tstB_0
@[simp] theorem b_cmp {o : Bop} : Okv (E.cmp o a b).sm.b ρ pB ↔ Okv (E.cmp o a b).sm.v ρ fun h ρ1 => Bol h fun k => pB k ρ1 := b_cmp_0
@[simp] theorem b_chain {o o' : Bop} : Okv (E.chain o o' a b c).sm.b ρ pB ↔ Okv (E.chain o o' a b c).sm.v ρ fun h ρ1 => Bol h fun k => pB k ρ1 := b_chain_0
@[simp] theorem b_and : Okv (E.and a b).sm.b ρ pB ↔ Okv a.sm.b ρ fun k ρ1 => Ifb k (Okv b.sm.b ρ1 pB) (pB false ρ1) := b_and_0
@[simp] theorem b_or : Okv (E.or a b).sm.b ρ pB ↔ Okv a.sm.b ρ fun k ρ1 => Ifb k (pB true ρ1) (Okv b.sm.b ρ1 pB) := b_or_0
@[simp] theorem b_not : Okv (E.not a).sm.b ρ pB ↔ Okv a.sm.b ρ fun k ρ1 => pB (!k) ρ1 := b_not_0
@[simp] theorem b_ite : Okv (E.ite c a b).sm.b ρ pB ↔ Okv c.sm.b ρ fun k ρ1 => Ifb k (Okv a.sm.b ρ1 pB) (Okv b.sm.b ρ1 pB) := b_ite_0
theorem b_val {e : E} (h : Bv e) : Okv e.sm.b ρ pB ↔ Okv e.sm.v ρ fun h ρ1 => Som (deref1 ρ1 h) fun x => Som (truD x) fun k => pB k ρ1 := b_val_0 h
@[simp] theorem b_var {i : Nat} : Okv (E.var i).sm.b ρ pB ↔ Okv (E.var i).sm.v ρ fun h ρ1 => Som (deref1 ρ1 h) fun x => Som (truD x) fun k => pB k ρ1 := b_var_0
@[simp] theorem b_con {d : D} : Okv (E.con d).sm.b ρ pB ↔ Okv (E.con d).sm.v ρ fun h ρ1 => Som (deref1 ρ1 h) fun x => Som (truD x) fun k => pB k ρ1 := b_con_0
@[simp] theorem b_isi {t : Ty} : Okv (E.isi t a).sm.b ρ pB ↔ Okv (E.isi t a).sm.v ρ fun h ρ1 => Som (deref1 ρ1 h) fun x => Som (truD x) fun k => pB k ρ1 := b_isi_0
@[simp] theorem b_idx : Okv (E.idx a b).sm.b ρ pB ↔ Okv (E.idx a b).sm.v ρ fun h ρ1 => Som (deref1 ρ1 h) fun x => Som (truD x) fun k => pB k ρ1 := b_idx_0
@[simp] theorem b_call {F : Fn} : Okv (E.call F es ks).sm.b ρ pB ↔ Okv (E.call F es ks).sm.v ρ fun h ρ1 => Som (deref1 ρ1 h) fun x => Som (truD x) fun k => pB k ρ1 := b_call_0
@[simp] theorem b_bi {q : Bi} : Okv (E.bi q es).sm.b ρ pB ↔ Okv (E.bi q es).sm.v ρ fun h ρ1 => Som (deref1 ρ1 h) fun x => Som (truD x) fun k => pB k ρ1 := b_bi_0
theorem n_dat {e : E} (h : Nd e) : Okv e.sm.n ρ pN ↔ Okv e.sm.v ρ fun h ρ1 => Okv (freeze h) ρ1 fun d ρ2 => pN (.dat d) ρ2 := n_dat_0 h
@[simp] theorem n_var {i : Nat} : Okv (E.var i).sm.n ρ pN ↔ Okv (E.var i).sm.v ρ fun h ρ1 => Okv (freeze h) ρ1 fun d ρ2 => pN (.dat d) ρ2 := n_var_0
@[simp] theorem n_con {d : D} : Okv (E.con d).sm.n ρ pN ↔ pN (.dat d) ρ := n_con_0
@[simp] theorem n_cmp {o : Bop} : Okv (E.cmp o a b).sm.n ρ pN ↔ Okv (E.cmp o a b).sm.v ρ fun h ρ1 => Okv (freeze h) ρ1 fun d ρ2 => pN (.dat d) ρ2 := n_cmp_0
@[simp] theorem n_chain {o o' : Bop} : Okv (E.chain o o' a b c).sm.n ρ pN ↔ Okv (E.chain o o' a b c).sm.v ρ fun h ρ1 => Okv (freeze h) ρ1 fun d ρ2 => pN (.dat d) ρ2 := n_chain_0
@[simp] theorem n_not : Okv (E.not a).sm.n ρ pN ↔ Okv (E.not a).sm.v ρ fun h ρ1 => Okv (freeze h) ρ1 fun d ρ2 => pN (.dat d) ρ2 := n_not_0
@[simp] theorem n_and : Okv (E.and a b).sm.n ρ pN ↔ Okv (E.and a b).sm.v ρ fun h ρ1 => Okv (freeze h) ρ1 fun d ρ2 => pN (.dat d) ρ2 := n_and_0
@[simp] theorem n_or : Okv (E.or a b).sm.n ρ pN ↔ Okv (E.or a b).sm.v ρ fun h ρ1 => Okv (freeze h) ρ1 fun d ρ2 => pN (.dat d) ρ2 := n_or_0
@[simp] theorem n_ite : Okv (E.ite c a b).sm.n ρ pN ↔ Okv (E.ite c a b).sm.v ρ fun h ρ1 => Okv (freeze h) ρ1 fun d ρ2 => pN (.dat d) ρ2 := n_ite_0
@[simp] theorem n_tup : Okv (E.tup es).sm.n ρ pN ↔ Okv (E.tup es).sm.v ρ fun h ρ1 => Okv (freeze h) ρ1 fun d ρ2 => pN (.dat d) ρ2 := n_tup_0
@[simp] theorem n_idx : Okv (E.idx a b).sm.n ρ pN ↔ Okv (E.idx a b).sm.v ρ fun h ρ1 => Okv (freeze h) ρ1 fun d ρ2 => pN (.dat d) ρ2 := n_idx_0
@[simp] theorem n_stp : Okv (E.stp a b).sm.n ρ pN ↔ Okv (E.stp a b).sm.v ρ fun h ρ1 => Okv (freeze h) ρ1 fun d ρ2 => pN (.dat d) ρ2 := n_stp_0
@[simp] theorem n_sli {lo hi : Oe} : Okv (E.sli a lo hi).sm.n ρ pN ↔ Okv (E.sli a lo hi).sm.v ρ fun h ρ1 => Okv (freeze h) ρ1 fun d ρ2 => pN (.dat d) ρ2 := n_sli_0
@[simp] theorem n_isi {t : Ty} : Okv (E.isi t a).sm.n ρ pN ↔ Okv (E.isi t a).sm.v ρ fun h ρ1 => Okv (freeze h) ρ1 fun d ρ2 => pN (.dat d) ρ2 := n_isi_0
@[simp] theorem n_join : Okv (E.join a b).sm.n ρ pN ↔ Okv (E.join a b).sm.v ρ fun h ρ1 => Okv (freeze h) ρ1 fun d ρ2 => pN (.dat d) ρ2 := n_join_0
@[simp] theorem n_neg : Okv (E.neg a).sm.n ρ pN ↔ Okv (E.neg a).sm.v ρ fun h ρ1 => Okv (freeze h) ρ1 fun d ρ2 => pN (.dat d) ρ2 := n_neg_0
@[simp] theorem n_list : Okv (E.bi .list es).sm.n ρ pN ↔ Okv es.vs ρ fun hs ρ1 => Som (derefs1 ρ1 hs) fun ds => Som (listB ds) fun d => pN (freshL d) ρ1 := n_list_0
theorem n_bi {q : Bi} (h : q ≠ .list) : Okv (E.bi q es).sm.n ρ pN ↔ Okv (E.bi q es).sm.v ρ fun h ρ1 => Okv (freeze h) ρ1 fun d ρ2 => pN (.dat d) ρ2 := n_bi_0 h
@[simp] theorem n_add : Okv (E.op .add a b).sm.n ρ pN ↔ Okv a.sm.v ρ fun h ρ1 => Okv b.sm.v ρ1 fun k ρ2 => Som (deref1 ρ2 h) fun x => Som (deref1 ρ2 k) fun y => Som (addD x y) fun d => pN (freshL d) ρ2 := n_add_0
theorem n_op {o : Bop} (h : o ≠ .add) : Okv (E.op o a b).sm.n ρ pN ↔ Okv (E.op o a b).sm.v ρ fun h ρ1 => Okv (freeze h) ρ1 fun d ρ2 => pN (.dat d) ρ2 := n_op_0 h
@[simp] theorem n_mul : Okv (E.op .mul a b).sm.n ρ pN ↔ Okv (E.op .mul a b).sm.v ρ fun h ρ1 => Okv (freeze h) ρ1 fun d ρ2 => pN (.dat d) ρ2 := n_mul_0
@[simp] theorem n_mod : Okv (E.op .mod a b).sm.n ρ pN ↔ Okv (E.op .mod a b).sm.v ρ fun h ρ1 => Okv (freeze h) ρ1 fun d ρ2 => pN (.dat d) ρ2 := n_mod_0
@[simp] theorem n_fdiv : Okv (E.op .fdiv a b).sm.n ρ pN ↔ Okv (E.op .fdiv a b).sm.v ρ fun h ρ1 => Okv (freeze h) ρ1 fun d ρ2 => pN (.dat d) ρ2 := n_fdiv_0
@[simp] theorem n_sub : Okv (E.op .sub a b).sm.n ρ pN ↔ Okv (E.op .sub a b).sm.v ρ fun h ρ1 => Okv (freeze h) ρ1 fun d ρ2 => pN (.dat d) ρ2 := n_sub_0
@[simp] theorem v_lc {it : Ie} {t : Tg} {own : List Nat} {o : Oe} : Okv (E.lc it t own o a).sm.v ρ post ↔ Okv (E.lc it t own o a).sm.n ρ fun fr ρ1 => post (.val fr.toD) ρ1 := v_lc_0
@[simp] theorem n_lc {it : Ie} {t : Tg} {own : List Nat} {o : Oe} : Okv (E.lc it t own o a).sm.n ρ pN ↔ Okv it.ds ρ fun ds ρ1 => Lc t own o.b a.sm.v ds ρ1 fun vs ρ2 => pN (.new (.lst vs)) ρ2 := n_lc_0
@[simp] theorem ds_seq : ∀ {p : List D → En → Prop}, Okv (Ie.seq a).ds ρ p ↔ Okv a.sm.v ρ fun h ρ1 => Okv (freeze h) ρ1 fun d ρ2 => Som (seqD d) fun ds => p ds ρ2 := ds_seq_0
theorem okv_itM {k : List D → Option (List D)} {g : Mo (List Hd)} {p : List D → En → Prop} : Okv (itM k g) ρ p ↔ Okv g ρ fun hs ρ1 => Okv (freezes hs) ρ1 fun ds ρ2 => Som (k ds) fun es => p es ρ2 := okv_itM_0
@[simp] theorem ds_rng1 {p : List D → En → Prop} : Okv (Ie.rng1 es).ds ρ p ↔ Okv es.vs ρ fun hs ρ1 => Okv (freezes hs) ρ1 fun ds ρ2 => Som (rngK1 ds) fun es => p es ρ2 := ds_rng1_0
@[simp] theorem ds_rng2 {p : List D → En → Prop} : Okv (Ie.rng2 es).ds ρ p ↔ Okv es.vs ρ fun hs ρ1 => Okv (freezes hs) ρ1 fun ds ρ2 => Som (rngK2 ds) fun es => p es ρ2 := ds_rng2_0
@[simp] theorem ds_enum {p : List D → En → Prop} : Okv (Ie.enum es).ds ρ p ↔ Okv es.vs ρ fun hs ρ1 => Okv (freezes hs) ρ1 fun ds ρ2 => Som (enumK ds) fun es => p es ρ2 := ds_enum_0
@[simp] theorem ds_zip {p : List D → En → Prop} : Okv (Ie.zip es).ds ρ p ↔ Okv es.vs ρ fun hs ρ1 => Okv (freezes hs) ρ1 fun ds ρ2 => Som (zipK ds) fun es => p es ρ2 := ds_zip_0
theorem okv_just {α : Type} {a : α} {ρ' : En} {p : α → En → Prop} : Okv (fun _ => some (.ok a ρ')) ρ p ↔ p a ρ' := okv_just_0
theorem okv_f {α : Type} {f : Mo α} {a : α} {ρ' : En} {p : α → En → Prop} (e : f ρ = some (.ok a ρ')) : Okv f ρ p ↔ p a ρ' := okv_f_0 e
@[simp] theorem ss_nil : Okv Ss.nil.ms ρ pF ↔ pF .nx ρ := ss_nil_0
@[simp] theorem ss_cons {s : S} {ss : Ss} : Okv (Ss.cons s ss).ms ρ pF ↔ Okv s.ms ρ fun fl ρ1 => Seqf fl (Okv ss.ms ρ1 pF) (pF fl ρ1) := ss_cons_0
@[simp] theorem s_asg {i : Nat} : Okv (S.asg i a).ms ρ pF ↔ Okv a.sm.n ρ fun fr ρ1 => pF .nx (ρ1.set i (slotOf fr)) := s_asg_0
@[simp] theorem s_ret : Okv (S.ret a).ms ρ pF ↔ Okv a.sm.n ρ fun fr ρ1 => pF (.rt fr) ρ1 := s_ret_0
@[simp] theorem s_expr : Okv (S.expr a).ms ρ pF ↔ Okv a.sm.v ρ fun _ ρ1 => pF .nx ρ1 := s_expr_0
@[simp] theorem s_asgT {t : Tg} : Okv (S.asgT t a).ms ρ pF ↔ Okv a.sm.v ρ fun h ρ1 => Okv (freeze h) ρ1 fun d ρ2 => Som (setT t d ρ2) fun ρ3 => pF .nx ρ3 := s_asgT_0
@[simp] theorem s_par {is : List Nat} : Okv (S.par is es).ms ρ pF ↔ Okv es.ns ρ fun frs ρ1 => frs.length = is.length ∧ pF .nx (setAll ρ1 is frs) := s_par_0
@[simp] theorem s_retV {i : Nat} : Okv (S.retV i).ms ρ pF ↔ Rtv ρ[i]? fun fr => pF (.rt fr) ρ := s_retV_0
@[simp] theorem s_ite {s t : Ss} : Okv (S.ite c s t).ms ρ pF ↔ Okv c.sm.b ρ fun k ρ1 => Ifb k (Okv s.ms ρ1 pF) (Okv t.ms ρ1 pF) := s_ite_0
@[simp] theorem s_for {it : Ie} {t : Tg} {s : Ss} : Okv (S.for it t s).ms ρ pF ↔ Okv it.ds ρ fun ds ρ1 => Okv (forL t s.ms ds) ρ1 pF := s_for_0
@[simp] theorem for_nil {t : Tg} {f : Ms} : Okv (forL t f []) ρ pF ↔ pF .nx ρ := for_nil_0
theorem for_cons {t : Tg} {f : Ms} {d : D} {ds : List D} (h : Som (setT t d ρ) fun ρ1 => Okv f ρ1 fun fl ρ2 => ((fl = .nx ∨ fl = .ct) ∧ Okv (forL t f ds) ρ2 pF) ∨ (fl = .bk ∧ pF .nx ρ2) ∨ ∃ r, fl = .rt r ∧ pF (.rt r) ρ2) : Okv (forL t f (d :: ds)) ρ pF := for_cons_0 h
theorem v_app {i : Nat} : Okv (E.app i a).sm.v ρ post ↔ (∃ l ds, ρ[i]? = some (.own l (.lst ds))) ∧ Okv a.sm.v ρ fun h ρ1 => Okv (freeze h) ρ1 fun d ρ2 => ∃ l ds, ρ2[i]? = some (.own l (.lst ds)) ∧ ds.length < sizeLine ∧ post (.val .non) (ρ2.set i (.own l (.lst (ds ++ [d])))) := v_app_0
theorem s_set {i : Nat} (h0 : ∃ l ds, ρ[i]? = some (.own l (.lst ds))) (h : Okv a.sm.v ρ fun h ρ1 => Okv (freeze h) ρ1 fun d ρ2 => (∃ l ds, ρ2[i]? = some (.own l (.lst ds))) ∧ Okv b.sm.v ρ2 fun h2 ρ3 => ∃ k, deref1 ρ3 h2 = some (.int k) ∧ ∃ l ds j, ρ3[i]? = some (.own l (.lst ds)) ∧ ixN ds.length k = some j ∧ pF .nx (ρ3.set i (.own l (.lst (ds.set j d))))) : Okv (S.set i b a).ms ρ pF := s_set_0 h0 h
theorem s_aug {i : Nat} {o : Aop} {x : Int} (h0 : ρ[i]? = some (.v (.int x))) : Okv (S.aug i o a).ms ρ pF ↔ Okv a.sm.v ρ fun h ρ1 => ∃ y, deref1 ρ1 h = some (.int y) ∧ pF .nx (ρ1.set i (.v (.int (o.f x y)))) := s_aug_0 h0
end
@[simp] theorem okv_callF' {F : Fn} {hs : List Hd} {ρ : En} {post : Fr → En → Prop} : Okv (callF F hs) ρ post ↔ Som (cal F hs ρ) fun sl => Fok F sl fun fr sl' => ∃ ρ', back ρ hs sl' = some ρ' ∧ post fr ρ' := okv_callF'_0
theorem fok_imp {F : Fn} {sl : List Sl} {p q : Fr → List Sl → Prop} (h : Fok F sl p) (i : ∀ fr sl', p fr sl' → q fr sl') : Fok F sl q := fok_imp_0 h i
theorem fok_run {n np : Nat} {f : Ms} {sl : List Sl} {p : Fr → List Sl → Prop} (h1 : sl.length = np) (h2 : sl.all isLent = true) (h : Okv f (sl ++ List.replicate (n - np) .no) fun fl ρ => Som (outSl sl ρ) fun r => ((fl = .nx ∧ p (.dat .non) r) ∨ ∃ fr, fl = .rt fr ∧ p fr r)) : Fok (runF n np f) sl p := fok_run_0 h1 h2 h
theorem fok_eq {F : Fn} {sl sl' : List Sl} {fr : Fr} {p : Fr → List Sl → Prop} (e : F sl = some (.ok fr sl')) : Fok F sl p ↔ p fr sl' := fok_eq_0 e
theorem eq_fok {F : Fn} {sl sl' : List Sl} {fr : Fr} (h : Fok F sl fun a b => a = fr ∧ b = sl') : F sl = some (.ok fr sl') := eq_fok_0 h
theorem for_inv {pF : Fl → En → Prop} {t : Tg} {f : Ms} (P : List D → En → Prop) {ds : List D} {ρ : En} (h0 : P ds ρ) (hs : ∀ d ds ρ, P (d :: ds) ρ → Som (setT t d ρ) fun ρ1 => Okv f ρ1 fun fl ρ2 => (fl = .nx ∨ fl = .ct) ∧ P ds ρ2) (hd : ∀ ρ, P [] ρ → pF .nx ρ) : Okv (forL t f ds) ρ pF := for_inv_0 P h0 hs hd
section
variable {ρ : En} {d : D} {i : Nat}
@[simp] theorem deref1_v : deref1 ρ (.val d) = some d := rfl
@[simp] theorem deref1_s : deref1 ρ (.slot i) = match ρ[i]? with
  | some (.own _ o) => some o.toD
  | some (.v d) => some d
  | _ => none := rfl
@[simp] theorem derefs1_n : derefs1 ρ [] = some [] := rfl
@[simp] theorem derefs1_c {h : Hd} {hs : List Hd} : derefs1 ρ (h :: hs) = match deref1 ρ h, derefs1 ρ hs with
  | some d, some ds => some (d :: ds)
  | _, _ => none := rfl
@[simp] theorem apart_n : apart [] = true := rfl
@[simp] theorem apart_v {hs : List Hd} : apart (.val d :: hs) = apart hs := rfl
@[simp] theorem apart_s {hs : List Hd} : apart (.slot i :: hs) = (!slotIn i hs && apart hs) := rfl
@[simp] theorem slotIn_n : slotIn i [] = false := rfl
@[simp] theorem slotIn_v {hs : List Hd} : slotIn i (.val d :: hs) = slotIn i hs := rfl
@[simp] theorem slotIn_s {j : Nat} {hs : List Hd} : slotIn i (.slot j :: hs) = (i == j || slotIn i hs) := rfl
@[simp] theorem lend1_v : lend1 ρ (.val d) = some (.v d) := rfl
@[simp] theorem lend1_s : lend1 ρ (.slot i) = match ρ[i]? with
  | some (.own _ o) => some (.own true o)
  | some (.v d) => some (.v d)
  | _ => none := rfl
@[simp] theorem lend_n : lend ρ [] = some [] := rfl
@[simp] theorem lend_c {h : Hd} {hs : List Hd} : lend ρ (h :: hs) = match lend1 ρ h, lend ρ hs with
  | some s, some sl => some (s :: sl)
  | _, _ => none := rfl
@[simp] theorem back_n : back ρ [] [] = some ρ := rfl
@[simp] theorem back_v {s : Sl} {hs : List Hd} {sl : List Sl} : back ρ (.val d :: hs) (s :: sl) = back ρ hs sl := rfl
@[simp] theorem back_s {s : Sl} {hs : List Hd} {sl : List Sl} : back ρ (.slot i :: hs) (s :: sl) = match ρ[i]?, s with
  | some (.own l _), .own true o => back (ρ.set i (.own l o)) hs sl
  | some (.v _), .v _ => back ρ hs sl
  | _, _ => none := rfl
@[simp] theorem outSl_n : outSl [] ρ = some [] := rfl
@[simp] theorem outSl_v {sl : List Sl} {s : Sl} : outSl (.v d :: sl) (s :: ρ) = (outSl sl ρ).map fun r => .v d :: r := by cases s with
  | own l o => cases l <;> rfl
  | _ => rfl
@[simp] theorem outSl_o {sl : List Sl} {l : Bool} {o u : Ow} : outSl (.own l u :: sl) (.own true o :: ρ) = (outSl sl ρ).map fun r => .own true o :: r := rfl
@[simp] theorem slotOf_d : slotOf (.dat d) = .v d := rfl
@[simp] theorem slotOf_n {o : Ow} : slotOf (.new o) = .own false o := rfl
@[simp] theorem frD_d : Fr.toD (.dat d) = d := rfl
@[simp] theorem frD_n {o : Ow} : Fr.toD (.new o) = o.toD := rfl
@[simp] theorem owD_l {ds : List D} : Ow.toD (.lst ds) = .lst ds := rfl
@[simp] theorem freshL_l {ds : List D} : freshL (.lst ds) = .new (.lst ds) := rfl
@[simp] theorem freshL_t {ds : List D} : freshL (.tup ds) = .dat (.tup ds) := rfl
@[simp] theorem freshL_i {n : Int} : freshL (.int n) = .dat (.int n) := rfl
@[simp] theorem freshL_s {n : List Nat} : freshL (.str n) = .dat (.str n) := rfl
@[simp] theorem tru_n : truD .non = some false := rfl
@[simp] theorem tru_b {b : Bool} : truD (.bl b) = some b := rfl
@[simp] theorem isi_n {t : Ty} : isiD t .non = some false := by cases t <;> rfl
@[simp] theorem isi_b {b : Bool} : isiD .int (.bl b) = some true := rfl
@[simp] theorem isi_bb {b : Bool} : isiD .bool (.bl b) = some true := rfl
@[simp] theorem isi_bs {b : Bool} : isiD .str (.bl b) = some false := rfl
@[simp] theorem isi_bt {b : Bool} : isiD .tuple (.bl b) = some false := rfl
@[simp] theorem isi_ii {n : Int} : isiD .int (.int n) = some true := rfl
@[simp] theorem isi_ib {n : Int} : isiD .bool (.int n) = some false := rfl
@[simp] theorem isi_is {n : Int} : isiD .str (.int n) = some false := rfl
@[simp] theorem isi_it {n : Int} : isiD .tuple (.int n) = some false := rfl
@[simp] theorem isi_si {s : List Nat} : isiD .int (.str s) = some false := rfl
@[simp] theorem isi_sb {s : List Nat} : isiD .bool (.str s) = some false := rfl
@[simp] theorem isi_ss {s : List Nat} : isiD .str (.str s) = some true := rfl
@[simp] theorem isi_st {s : List Nat} : isiD .tuple (.str s) = some false := rfl
@[simp] theorem isi_ti {s : List D} : isiD .int (.tup s) = some false := rfl
@[simp] theorem isi_tb {s : List D} : isiD .bool (.tup s) = some false := rfl
@[simp] theorem isi_ts {s : List D} : isiD .str (.tup s) = some false := rfl
@[simp] theorem isi_tt {s : List D} : isiD .tuple (.tup s) = some true := rfl
@[simp] theorem isi_li {s : List D} : isiD .int (.lst s) = some false := rfl
@[simp] theorem isi_lb {s : List D} : isiD .bool (.lst s) = some false := rfl
@[simp] theorem isi_ls {s : List D} : isiD .str (.lst s) = some false := rfl
@[simp] theorem isi_lt {s : List D} : isiD .tuple (.lst s) = some false := rfl
@[simp] theorem isi_di {s : List (D × D)} : isiD .int (.dct s) = some false := rfl
@[simp] theorem isi_db {s : List (D × D)} : isiD .bool (.dct s) = some false := rfl
@[simp] theorem isi_ds {s : List (D × D)} : isiD .str (.dct s) = some false := rfl
@[simp] theorem isi_dt {s : List (D × D)} : isiD .tuple (.dct s) = some false := rfl
@[simp] theorem opB_add : Bop.op .add = addD := rfl
@[simp] theorem opB_sub : Bop.op .sub = subD := rfl
@[simp] theorem opB_mul : Bop.op .mul = mulD := rfl
@[simp] theorem opB_fdiv : Bop.op .fdiv = fdivD := rfl
@[simp] theorem opB_mod : Bop.op .mod = modD := rfl
@[simp] theorem opB_pow : Bop.op .pow = powD := rfl
@[simp] theorem opB_eq : Bop.op .eq = fun a b => (eqF 60 a b).map fun e => .bl e := rfl
@[simp] theorem opB_ne : Bop.op .ne = fun a b => (eqF 60 a b).map fun e => .bl (!e) := rfl
@[simp] theorem opB_lt : Bop.op .lt = ltD := rfl
@[simp] theorem opB_le : Bop.op .le = leD := rfl
@[simp] theorem opB_gt : Bop.op .gt = gtD := rfl
@[simp] theorem opB_ge : Bop.op .ge = geD := rfl
@[simp] theorem opB_is : Bop.op .is = isD false := rfl
@[simp] theorem opB_isn : Bop.op .isn = isD true := rfl
@[simp] theorem opB_isin : Bop.op .isin = inD false := rfl
@[simp] theorem opB_nin : Bop.op .nin = inD true := rfl
@[simp] theorem biF_len : Bi.fn .len = lenB := rfl
@[simp] theorem biF_abs : Bi.fn .abs = absB := rfl
@[simp] theorem biF_int : Bi.fn .int = intB := rfl
@[simp] theorem biF_sum : Bi.fn .sum = sumB := rfl
@[simp] theorem biF_all : Bi.fn .all = allB := rfl
@[simp] theorem biF_any : Bi.fn .any = anyB := rfl
@[simp] theorem biF_max : Bi.fn .max = maxB := rfl
@[simp] theorem biF_min : Bi.fn .min = minB := rfl
@[simp] theorem biF_str : Bi.fn .str = strB := rfl
@[simp] theorem biF_repr : Bi.fn .repr = reprB := rfl
@[simp] theorem biF_list : Bi.fn .list = listB := rfl
@[simp] theorem biF_tuple : Bi.fn .tuple = tupleB := rfl
/-! ints -/
variable {n m : Int}
@[simp] theorem add_ii : addD (.int n) (.int m) = some (.int (n + m)) := rfl
@[simp] theorem sub_ii : subD (.int n) (.int m) = some (.int (n - m)) := rfl
@[simp] theorem lt_ii : ltD (.int n) (.int m) = some (.bl (decide (n < m))) := rfl
@[simp] theorem le_ii : leD (.int n) (.int m) = some (.bl (decide (n ≤ m))) := rfl
@[simp] theorem gt_ii : gtD (.int n) (.int m) = some (.bl (decide (m < n))) := rfl
@[simp] theorem ge_ii : geD (.int n) (.int m) = some (.bl (decide (m ≤ n))) := rfl
@[simp] theorem eq_ii : eqF 60 (.int n) (.int m) = some (n == m) := rfl
@[simp] theorem eq_ss {a b : List Nat} : eqF 60 (.str a) (.str b) = some (a == b) := rfl
@[simp] theorem eq_bb {a b : Bool} : eqF 60 (.bl a) (.bl b) = some (a == b) := rfl
@[simp] theorem len_t {ds : List D} : lenB [.tup ds] = some (.int ds.length) := rfl
@[simp] theorem len_l {ds : List D} : lenB [.lst ds] = some (.int ds.length) := rfl
@[simp] theorem int_i : intB [.int n] = some (.int n) := rfl
@[simp] theorem int_b {b : Bool} : intB [.bl b] = some (.int (if b then 1 else 0)) := rfl
@[simp] theorem abs_i : absB [.int n] = some (.int (if n < 0 then -n else n)) := rfl
@[simp] theorem max_ii : maxB [.int n, .int m] = some (.int (if m > n then m else n)) := rfl
@[simp] theorem min_ii : minB [.int n, .int m] = some (.int (if m < n then m else n)) := rfl
@[simp] theorem neg_i : negD (.int n) = some (.int (-n)) := rfl
@[simp] theorem idx_t {ds : List D} : idxD (.tup ds) (.int n) = atI ds n := rfl
@[simp] theorem idx_l {ds : List D} : idxD (.lst ds) (.int n) = atI ds n := rfl
@[simp] theorem seq_t {ds : List D} : seqD (.tup ds) = some ds := rfl
@[simp] theorem seq_l {ds : List D} : seqD (.lst ds) = some ds := rfl
@[simp] theorem seq_f {ds : List D} : seqD (.frz ds) = some ds := rfl
@[simp] theorem seq_s {s : List Nat} : seqD (.str s) = some (chars s) := rfl
@[simp] theorem setT_nm {ρ : En} {i : Nat} {d : D} : setT (.nm i) d ρ = some (ρ.set i (.v d)) := by
  simp [setT]
@[simp] theorem setT_tup {ρ : En} {ts : Tgs} {ds : List D} : setT (.tup ts) (.tup ds) ρ = setTs ts ds ρ := by
  simp [setT]
@[simp] theorem setTs_n {ρ : En} : setTs .nil [] ρ = some ρ := by
  simp [setTs]
@[simp] theorem setTs_c {ρ : En} {t : Tg} {ts : Tgs} {d : D} {ds : List D} : setTs (.cons t ts) (d :: ds) ρ = (setT t d ρ).bind fun ρ1 => setTs ts ds ρ1 := by
  cases h : setT t d ρ with
  | none => simp [setTs, h]
  | some ρ1 => simp [setTs, h]
@[simp] theorem setAll_n {ρ : En} {frs : List Fr} : setAll ρ [] frs = ρ := by
  simp [setAll]
@[simp] theorem setAll_c {ρ : En} {i : Nat} {is : List Nat} {fr : Fr} {frs : List Fr} : setAll ρ (i :: is) (fr :: frs) = setAll (ρ.set i (slotOf fr)) is frs := by
  simp [setAll]
end
end Mi
set_option Elab.async false
set_option linter.all false
set_option maxRecDepth 100000
set_option maxHeartbeats 2000000
/-! P2: lists written, ints counted, one step at a time; the arithmetic of draws -/
namespace Mi
open PySem L2
def Olw (s : Option Sl) (k : Bool → List D → Prop) : Prop := ∃ l ds, s = some (.own l (.lst ds)) ∧ k l ds
def Olst (s : Option Sl) (k : Bool → List D → Prop) (t : Tag k := ⟨⟩) : Prop := Olw s k
@[simp] theorem olst_o {l : Bool} {ds : List D} {k : Bool → List D → Prop} : Olst (some (.own l (.lst ds))) k ↔ k l ds := by
  constructor
  · rintro ⟨l', ds', h, q⟩
    cases h
    exact q
  · exact fun h => ⟨l, ds, rfl, h⟩
def Ivw (s : Option Sl) (k : Int → Prop) : Prop := ∃ i, s = some (.v (.int i)) ∧ k i
def Ivar (s : Option Sl) (k : Int → Prop) (t : Tag k := ⟨⟩) : Prop := Ivw s k
@[simp] theorem ivar_o {i : Int} {k : Int → Prop} : Ivar (some (.v (.int i))) k ↔ k i := by simp [Ivar, Ivw]
def Cnd (p : Prop) (A : Prop) (t : Tag A := ⟨⟩) : Prop := p ∧ A
@[simp] theorem cnd_t {A : Prop} : Cnd True A ↔ A := by simp [Cnd]
section
variable {ρ : En} {a b : E} {pF : Fl → En → Prop}
theorem s_set_s0 {i : Nat} : Okw (S.set i b a).ms ρ pF ↔ Okw a.sm.v ρ fun h ρ1 => Okw (freeze h) ρ1 fun d ρ2 => Olw ρ2[i]? fun _ _ => Okw b.sm.v ρ2 fun h2 ρ3 => Sow (deref1 ρ3 h2) fun k => Itw k fun k => Olw ρ3[i]? fun l ds => Sow (ixN ds.length k) fun j => pF .nx (ρ3.set i (.own l (.lst (ds.set j d)))) := by
  show Okw (setM i a.sm.v b.sm.v) ρ pF ↔ _
  unfold setM
  simp only [okv_bind_0]
  refine iff_of_eq (congrArg _ (funext fun h => funext fun ρ1 => congrArg _ (funext fun d => funext fun ρ2 => propext ?_)))
  constructor
  · rintro ⟨x, ρ', h, q⟩
    dsimp only at h
    split at h
    · rename_i l ds h1
      refine ⟨l, ds, h1, ?_⟩
      have this : Okw (Mo.bind b.sm.v fun h2 => Mo.bind (deref h2) fun k ρ => match ρ[i]?, k with
        | some (.own l (.lst ds)), .int k => match ixN ds.length k with
          | some j => some (.ok Fl.nx (ρ.set i (.own l (.lst (ds.set j d)))))
          | none => none
        | _, _ => none) ρ2 pF := ⟨x, ρ', h, q⟩
      simp only [okv_bind_0, okv_deref_0] at this
      refine okv_imp_0 this fun h2 ρ3 ⟨k, h3, x, ρ', h4, q⟩ => ⟨k, h3, ?_⟩
      dsimp only at h4
      split at h4
      · rename_i l ds k h5
        split at h4
        · rename_i j hj
          cases h4
          exact ⟨k, rfl, l, ds, h5, j, hj, q⟩
        · cases h4
      · cases h4
    · cases h
  · rintro ⟨l, ds, h1, this⟩
    have this : Okw (Mo.bind b.sm.v fun h2 => Mo.bind (deref h2) fun k ρ => match ρ[i]?, k with
        | some (.own l (.lst ds)), .int k => match ixN ds.length k with
          | some j => some (.ok Fl.nx (ρ.set i (.own l (.lst (ds.set j d)))))
          | none => none
        | _, _ => none) ρ2 pF := by
      simp only [okv_bind_0, okv_deref_0]
      refine okv_imp_0 this fun h2 ρ3 ⟨k, h3, k', hk, l, ds, h4, j, h5, q⟩ => ⟨k, h3, .nx, _, ?_, q⟩
      subst hk
      simp only [h4, h5]
    obtain ⟨x, ρ', h2, q⟩ := this
    refine ⟨x, ρ', ?_, q⟩
    simp only [h1]
    exact h2
@[simp] theorem s_set_s {i : Nat} : Okv (S.set i b a).ms ρ pF ↔ Okv a.sm.v ρ fun h ρ1 => Okv (freeze h) ρ1 fun d ρ2 => Olst ρ2[i]? fun _ _ => Okv b.sm.v ρ2 fun h2 ρ3 => Som (deref1 ρ3 h2) fun k => Itg k fun k => Olst ρ3[i]? fun l ds => Som (ixN ds.length k) fun j => pF .nx (ρ3.set i (.own l (.lst (ds.set j d)))) := s_set_s0
theorem s_aug_s0 {i : Nat} {o : Aop} : Okw (S.aug i o a).ms ρ pF ↔ Ivw ρ[i]? fun x => Okw a.sm.v ρ fun h ρ1 => Sow (deref1 ρ1 h) fun y => Itw y fun y => pF .nx (ρ1.set i (.v (.int (o.f x y)))) := by
  constructor
  · intro h
    have h' : Okw (augM i o.f a.sm.v) ρ pF := h
    obtain ⟨x, ρ', h1, q⟩ := h'
    unfold augM at h1
    split at h1
    · rename_i x h0
      refine ⟨x, h0, ?_⟩
      obtain h2 := (s_aug_0 h0).mp h
      exact okv_imp_0 h2 fun h ρ1 ⟨y, h3, h4⟩ => ⟨_, h3, y, rfl, h4⟩
    · cases h1
  · rintro ⟨x, h0, h⟩
    refine (s_aug_0 h0).mpr (okv_imp_0 h fun h ρ1 ⟨d, h3, y, hd, h4⟩ => ⟨y, by rw [h3, hd], h4⟩)
@[simp] theorem s_aug_s {i : Nat} {o : Aop} : Okv (S.aug i o a).ms ρ pF ↔ Ivar ρ[i]? fun x => Okv a.sm.v ρ fun h ρ1 => Som (deref1 ρ1 h) fun y => Itg y fun y => pF .nx (ρ1.set i (.v (.int (o.f x y)))) := s_aug_s0
theorem v_app_s0 {i : Nat} {post : Hd → En → Prop} : Okw (E.app i a).sm.v ρ post ↔ Olw ρ[i]? fun _ _ => Okw a.sm.v ρ fun h ρ1 => Okw (freeze h) ρ1 fun d ρ2 => Olw ρ2[i]? fun l ds => ds.length < sizeLine ∧ post (.val .non) (ρ2.set i (.own l (.lst (ds ++ [d])))) := by
  rw [v_app_0]
  constructor
  · rintro ⟨⟨l, ds, h⟩, h2⟩
    exact ⟨l, ds, h, h2⟩
  · rintro ⟨l, ds, h, h2⟩
    exact ⟨⟨l, ds, h⟩, h2⟩
@[simp] theorem v_app_s {i : Nat} {post : Hd → En → Prop} : Okv (E.app i a).sm.v ρ post ↔ Olst ρ[i]? fun _ _ => Okv a.sm.v ρ fun h ρ1 => Okv (freeze h) ρ1 fun d ρ2 => Olst ρ2[i]? fun l ds => Cnd (ds.length < sizeLine) (post (.val .non) (ρ2.set i (.own l (.lst (ds ++ [d]))))) := v_app_s0
end
/-! ### ints -/
section
variable {n m : Int}
theorem mod_ii (h : m ≠ 0) : modD (.int n) (.int m) = some (.int (n.fmod m)) := by simp [modD, intOp, h]
theorem fdiv_ii (h : m ≠ 0) (h2 : m.natAbs < 1073741824) : fdivD (.int n) (.int m) = some (.int (n.fdiv m)) := by simp [fdivD, intOp, divB, h, h2]
theorem mul_ii (h : -(2 ^ 64) < n ∧ n < 2 ^ 64) : mulD (.int n) (.int m) = some (.int (n * m)) := by
  have : mulB n m = true := by
    unfold mulB
    simp only [Bool.or_eq_true, Bool.and_eq_true, decide_eq_true_eq]
    exact .inl h
  simp [mulD, intOp, this]
theorem mul_ii' (h : -(2 ^ 64) < m ∧ m < 2 ^ 64) : mulD (.int n) (.int m) = some (.int (n * m)) := by
  have : mulB n m = true := by
    unfold mulB
    simp only [Bool.or_eq_true, Bool.and_eq_true, decide_eq_true_eq]
    exact .inr h
  simp [mulD, intOp, this]
theorem pow_ii (h : 0 ≤ m) (h2 : m ≤ 1000000) (h3 : n.natAbs < 2 ^ 64) : powD (.int n) (.int m) = some (.int (n ^ m.toNat)) := by
  have : powB n m = true := by
    unfold powB
    simp only [Bool.and_eq_true, decide_eq_true_eq]
    exact ⟨⟨h, h2⟩, h3⟩
  simp [powD, intOp, this]
@[simp] theorem ne_ll {xs : List D} : eqF 60 (.lst xs) (.lst []) = some xs.isEmpty := by
  cases xs <;> rfl
@[simp] theorem eq_tt0 {xs : List D} : eqF 60 (.tup xs) (.tup []) = some xs.isEmpty := by
  cases xs <;> rfl
end
end Mi
set_option Elab.async false
set_option linter.all false
set_option maxRecDepth 100000
set_option maxHeartbeats 2000000
/-! P3: comprehensions; what repr shows of bools; operations on lists, tuples and texts -/
namespace Mi
open PySem L2

@[simp] theorem oe_no {ρ : En} {p : Bool → En → Prop} : Okv Oe.no.b ρ p ↔ p true ρ := okv_pure
@[simp] theorem oe_so {e : E} {ρ : En} {p : Bool → En → Prop} : Okv (Oe.so e).b ρ p ↔ Okv e.sm.b ρ p := Iff.rfl
@[simp] theorem n_bi_s {q : Bi} {es : Es} {ρ : En} {pN : Fr → En → Prop} (h : q ≠ .list) : Okv (E.bi q es).sm.n ρ pN ↔ Okv (E.bi q es).sm.v ρ fun h ρ1 => Okv (freeze h) ρ1 fun d ρ2 => pN (.dat d) ρ2 := n_bi h
@[simp] theorem n_op_s {o : Bop} {a b : E} {ρ : En} {pN : Fr → En → Prop} (h : o ≠ .add) : Okv (E.op o a b).sm.n ρ pN ↔ Okv (E.op o a b).sm.v ρ fun h ρ1 => Okv (freeze h) ρ1 fun d ρ2 => pN (.dat d) ρ2 := n_op h
theorem okw_eq {α : Type} {m : Mo α} {ρ : En} {post : α → En → Prop} (h : Okw m ρ post) : ∃ a ρ', m ρ = some (.ok a ρ') ∧ post a ρ' := h
theorem lcl_inv {t : Tg} {own : List Nat} {c : Mo Bool} {e : Mo Hd} (P : List D → List D → En → Prop)
    (hs : ∀ d ds vs ρ, P (d :: ds) vs ρ → Sow (setT t d ρ) fun ρ1 => Okw c ρ1 fun k ρ2 => Ifw k (Okw e ρ2 fun h ρ3 => Okw (freeze h) ρ3 fun v ρ4 => vs.length < sizeLine ∧ P ds (vs ++ [v]) (wipeE ρ4 own)) (P ds vs (wipeE ρ2 own))) :
    ∀ (ds vs : List D) (ρ : En), P ds vs ρ → ∃ ws ρ', lcL t own c e ds vs.length ρ = some (ws, ρ') ∧ P [] (vs ++ ws) ρ'
  | [], vs, ρ, h => ⟨[], ρ, rfl, by simpa using h⟩
  | d :: ds, vs, ρ, h => by
    obtain ⟨ρ1, h1, k, ρ2, h2, ⟨rfl, h3⟩ | ⟨rfl, h3⟩⟩ := hs d ds vs ρ h
    · obtain ⟨a, ρ3, h4, v, ρ4, h5, h6, h7⟩ := h3
      obtain ⟨ws, ρ', h8, h9⟩ := lcl_inv P hs ds (vs ++ [v]) _ h7
      have hb : Mo.bind e freeze ρ2 = some (.ok v ρ4) := by simp [Mo.bind, h4, h5]
      rw [List.length_append, List.length_singleton] at h8
      refine ⟨v :: ws, ρ', ?_, by simpa using h9⟩
      simp [lcL, h1, h2, hb, h6, h8]
    · obtain ⟨ws, ρ', h8, h9⟩ := lcl_inv P hs ds vs _ h3
      exact ⟨ws, ρ', by simp [lcL, h1, h2, h8], h9⟩
/-- a comprehension by an invariant of what is left and what is made -/
theorem lc_inv {t : Tg} {own : List Nat} {c : Mo Bool} {e : Mo Hd} {ds : List D} {ρ : En} {p : List D → En → Prop} (P : List D → List D → En → Prop) (h0 : plainAt ρ own = true) (h1 : P ds [] (wipeE ρ own))
    (hs : ∀ d ds vs ρ, P (d :: ds) vs ρ → Som (setT t d ρ) fun ρ1 => Okv c ρ1 fun k ρ2 => Ifb k (Okv e ρ2 fun h ρ3 => Okv (freeze h) ρ3 fun v ρ4 => Cnd (vs.length < sizeLine) (P ds (vs ++ [v]) (wipeE ρ4 own))) (P ds vs (wipeE ρ2 own)))
    (hd : ∀ vs ρ', P [] vs ρ' → p vs (unwipe ρ' ρ own)) : Lc t own c e ds ρ p := by
  obtain ⟨ws, ρ', h2, h3⟩ := lcl_inv P hs ds [] _ h1
  exact ⟨h0, ws, ρ', h2, hd _ _ (by simpa using h3)⟩
/-- a comprehension that leaves all as it is -/
theorem lc_fm {t : Tg} {own : List Nat} {c : Mo Bool} {e : Mo Hd} {ds : List D} {ρ : En} {p : List D → En → Prop} (f : D → Option D) (h0 : plainAt ρ own = true) (hl : ds.length ≤ sizeLine)
    (hs : ∀ d, d ∈ ds → Som (setT t d (wipeE ρ own)) fun ρ1 => Okv c ρ1 fun k ρ2 => Ifb k (Okv e ρ2 fun h ρ3 => Okv (freeze h) ρ3 fun v ρ4 => f d = some v ∧ wipeE ρ4 own = wipeE ρ own) (f d = none ∧ wipeE ρ2 own = wipeE ρ own))
    (hd : p (ds.filterMap f) (unwipe (wipeE ρ own) ρ own)) : Lc t own c e ds ρ p := by
  refine lc_inv (fun rs vs ρ' => ρ' = wipeE ρ own ∧ ∃ bs, ds = bs ++ rs ∧ vs = bs.filterMap f) h0 ⟨rfl, [], rfl, rfl⟩ ?_ ?_
  · rintro d rs vs ρ' ⟨rfl, bs, hb, rfl⟩
    obtain ⟨ρ1, h1, k, ρ2, h2, h3⟩ := hs d (by rw [hb]; simp)
    have hl2 : (bs.filterMap f).length < sizeLine := by
      have a1 := List.length_filterMap_le f bs
      have a2 : ds.length = bs.length + (rs.length + 1) := by rw [hb]; simp
      omega
    refine ⟨ρ1, h1, k, ρ2, h2, ?_⟩
    rcases h3 with ⟨rfl, a, ρ3, h4, v, ρ4, h5, h6, h7⟩ | ⟨rfl, h6, h7⟩
    · exact .inl ⟨rfl, a, ρ3, h4, v, ρ4, h5, hl2, h7, bs ++ [d], by rw [hb]; simp, by simp [h6]⟩
    · exact .inr ⟨rfl, h7, bs ++ [d], by rw [hb]; simp, by simp [h6]⟩
  · rintro vs ρ' ⟨rfl, bs, hb, rfl⟩
    rw [List.append_nil] at hb
    subst hb
    exact hd
theorem lc_map {t : Tg} {own : List Nat} {c : Mo Bool} {e : Mo Hd} {ds : List D} {ρ : En} {p : List D → En → Prop} (f : D → D) (h0 : plainAt ρ own = true) (hl : ds.length ≤ sizeLine)
    (hs : ∀ d, d ∈ ds → Som (setT t d (wipeE ρ own)) fun ρ1 => Okv c ρ1 fun k ρ2 => k = true ∧ Okv e ρ2 fun h ρ3 => Okv (freeze h) ρ3 fun v ρ4 => v = f d ∧ wipeE ρ4 own = wipeE ρ own)
    (hd : p (ds.map f) (unwipe (wipeE ρ own) ρ own)) : Lc t own c e ds ρ p := by
  refine lc_fm (fun d => some (f d)) h0 hl (fun d hm => ?_) (by rw [List.filterMap_eq_map']; exact hd)
  obtain ⟨ρ1, h1, k, ρ2, h2, rfl, a, ρ3, h4, v, ρ4, h5, h6, h7⟩ := hs d hm
  exact ⟨ρ1, h1, _, ρ2, h2, .inl ⟨rfl, a, ρ3, h4, v, ρ4, h5, by rw [h6], h7⟩⟩

/-! ### frames -/
section
variable {ρ : En} {v : Nat} {vs : List Nat} {s : Sl}
@[simp] theorem wipeE_n : wipeE ρ [] = ρ := by simp [wipeE]
@[simp] theorem wipeE_c : wipeE ρ (v :: vs) = (wipeE ρ vs).set v .no := by simp [wipeE]
@[simp] theorem plainAt_n : plainAt ρ [] = true := by simp [plainAt]
@[simp] theorem plainAt_c : plainAt ρ (v :: vs) = ((match ρ[v]? with
  | some (.own _ _) => false
  | _ => true) && plainAt ρ vs) := by simp [plainAt] <;> rfl
@[simp] theorem unwipe_n {ρ0 : En} : unwipe ρ ρ0 [] = ρ := by simp [unwipe]
@[simp] theorem unwipe_c {ρ0 : En} : unwipe ρ ρ0 (v :: vs) = match ρ0[v]? with
  | some s => (unwipe ρ ρ0 vs).set v s
  | none => unwipe ρ ρ0 vs := by simp [unwipe] <;> (cases ρ0[v]? <;> rfl)
end

/-! ### operations -/
section
variable {a b : List Nat} {xs ys : List D} {n m : Int}
theorem line_le {n : Nat} (h : n ≤ 1000000) : n ≤ sizeLine := by
  rw [sizeLine_eq]
  omega
theorem line_lt {n : Nat} (h : n < 1000000) : n < sizeLine := by
  rw [sizeLine_eq]
  omega
theorem add_ss (h : a.length + b.length ≤ 1000000) : addD (.str a) (.str b) = some (.str (a ++ b)) := by
  simp [addD, catStr, intOp, line_le h]
theorem add_ll (h : xs.length + ys.length ≤ 1000000) : addD (.lst xs) (.lst ys) = some (.lst (xs ++ ys)) := by
  simp [addD, catStr, catLst, intOp, line_le h]
theorem add_tt (h : xs.length + ys.length ≤ 1000000) : addD (.tup xs) (.tup ys) = some (.tup (xs ++ ys)) := by
  simp [addD, catStr, catLst, catTup, intOp, line_le h]
theorem len_s (h : a.length ≤ 1000000) : lenB [.str a] = some (.int a.length) := by
  simp [lenB, line_le h]
theorem idx_s (h : a.length ≤ 1000000) : idxD (.str a) (.int n) = (atI a n).map fun c => .str [c] := by
  simp [idxD, line_le h]
theorem sli_s {lo hi : Option Int} (h : a.length ≤ 1000000) : sliD (.str a) lo hi = some (.str (cutL a lo hi)) := by
  simp [sliD, line_le h]
theorem flat_rep {x : D} {k : Nat} : (List.replicate k [x]).flatten = List.replicate k x := by
  induction k with
  | zero => rfl
  | succ k ih => rw [List.replicate_succ, List.flatten_cons, ih]; rfl
theorem rep_c {x : D} {k : Nat} (h : k ≤ 1000000) : [x].length * (k : Int).toNat ≤ sizeLine := by
  rw [List.length_singleton, Nat.one_mul, Int.toNat_natCast]
  exact line_le h
theorem rep_l {x : D} {k : Int} (h : -(2 ^ 63) ≤ k ∧ k < 2 ^ 63 ∧ [x].length * k.toNat ≤ sizeLine) : repLst (.lst [x]) (.int k) = some (.lst (List.replicate k.toNat x)) := by
  unfold repLst
  rw [← flat_rep]
  exact if_pos h
theorem mul_l {x : D} {k : Int} : mulD (.lst [x]) (.int k) = repLst (.lst [x]) (.int k) := by
  unfold mulD
  exact Option.none_or
theorem mul_rep {x : D} {k : Nat} (h : k ≤ 1000000) : mulD (.lst [x]) (.int (k : Int)) = some (.lst (List.replicate k x)) := by
  have h2 : -(2 ^ 63) ≤ (k : Int) ∧ (k : Int) < 2 ^ 63 := ⟨by omega, by omega⟩
  have e := rep_l (x := x) ⟨h2.1, h2.2, rep_c h⟩
  rw [Int.toNat_natCast] at e
  exact mul_l.trans e
end
/-! ### repr of bools -/
theorem toPys_b : ∀ (bs : List Bool), toPys (bs.map .bl) = some (bs.map .bool)
  | [] => by simp [toPys]
  | b :: bs => by simp [toPys, toPy, toPys_b bs]
theorem weight_b : ∀ (bs : List Bool), PyData.weightAll (bs.map .bool) ≤ 4 * bs.length
  | [] => by simp [PyData.weightAll]
  | b :: bs => by
    have h := weight_b bs
    simp only [List.map_cons, PyData.weightAll, PyData.weight, List.length_cons]
    omega
theorem short_b : ∀ (bs : List Bool), PyData.leavesShortAll 8 (bs.map .bool) = true
  | [] => by simp [PyData.leavesShortAll]
  | b :: bs => by simp [PyData.leavesShortAll, PyData.leavesShort, short_b bs]
theorem shw_b {bs : List Bool} (h : bs.length ≤ 10000) : ∃ t, shw (.list (bs.map .bool)) = some t := by
  have e1 : (PyData.list (bs.map .bool)).showable = true := by
    have : ∀ bs : List Bool, PyData.showableAll (bs.map .bool) = true := fun bs => by
      induction bs with
      | nil => simp [PyData.showableAll]
      | cons b bs ih => simp [PyData.showableAll, PyData.showable, ih]
    simp [PyData.showable, this]
  have e2 : (PyData.list (bs.map .bool)).hasDict = false := by
    have : ∀ bs : List Bool, PyData.hasDictAll (bs.map .bool) = false := fun bs => by
      induction bs with
      | nil => simp [PyData.hasDictAll]
      | cons b bs ih => simp [PyData.hasDictAll, PyData.hasDict, ih]
    simp [PyData.hasDict, this]
  have e3 : (PyData.list (bs.map .bool)).depth ≤ 60 := by
    have : ∀ bs : List Bool, PyData.depthAll (bs.map .bool) ≤ 1 := fun bs => by
      induction bs with
      | nil => simp [PyData.depthAll]
      | cons b bs ih =>
        simp only [List.map_cons, PyData.depthAll, PyData.depth]
        omega
    have := this bs
    simp only [PyData.depth]
    omega
  have e4 : (PyData.list (bs.map .bool)).shown.length ≤ sizeLine := by
    have h1 := PyData.shown_le 8 (by omega) (.list (bs.map .bool)) (by simpa [PyData.leavesShort] using short_b bs)
    have h2 := weight_b bs
    simp only [PyData.weight] at h1
    rw [sizeLine_eq]
    omega
  exact ⟨_, by simp [shw, e1, e2, e3, e4]; rfl⟩
theorem repr_b {bs : List Bool} (h : bs.length ≤ 10000) : ∃ t, reprB [.lst (bs.map .bl)] = some (.str t) := by
  obtain ⟨t, ht⟩ := shw_b h
  exact ⟨t, by simp [reprB, toPy, toPys_b, ht]⟩
end Mi
set_option Elab.async false
set_option linter.all false
set_option maxRecDepth 100000
set_option maxHeartbeats 2000000
/-! P4: slices, zips, ranges, indexes -/
namespace Mi
open PySem L2

section
variable {α : Type} {xs : List α} {a b c d : α}
theorem atI_n {k : Nat} : atI xs (k : Int) = xs[k]? := by
  unfold atI ixN
  rw [if_pos (by omega)]
  by_cases h : k < xs.length
  · rw [if_pos (by omega)]
    simp
  · rw [if_neg (by omega)]
    simp [List.getElem?_eq_none (Nat.le_of_not_lt h)]
@[simp] theorem atI_0 : atI (a :: xs) 0 = some a := atI_n (k := 0)
@[simp] theorem atI_1 : atI (a :: b :: xs) 1 = some b := atI_n (k := 1)
@[simp] theorem atI_2 : atI (a :: b :: c :: xs) 2 = some c := atI_n (k := 2)
@[simp] theorem atI_3 : atI (a :: b :: c :: d :: xs) 3 = some d := atI_n (k := 3)
theorem atI_some {i : Int} (h0 : 0 ≤ i) (h1 : i < xs.length) : ∃ x, atI xs i = some x ∧ x ∈ xs := by
  obtain ⟨k, rfl⟩ : ∃ k : Nat, i = k := ⟨i.toNat, by omega⟩
  have h : k < xs.length := by omega
  exact ⟨xs[k], by rw [atI_n]; simp [h], List.getElem_mem h⟩
theorem atI_m1 : atI (xs ++ [a]) (-1) = some a := by
  unfold atI ixN
  rw [if_neg (by omega), if_pos (by simp only [List.length_append, List.length_singleton]; omega)]
  have : ((-1 : Int) + ((xs ++ [a]).length : Int)).toNat = xs.length := by
    simp only [List.length_append, List.length_singleton]
    omega
  show (xs ++ [a])[_]? = _
  rw [this]
  simp
theorem atI_last (h : xs ≠ []) : atI xs (-1) = some (xs.getLast h) := by
  have := atI_m1 (xs := xs.dropLast) (a := xs.getLast h)
  rwa [List.dropLast_concat_getLast] at this
theorem cut_to {k : Nat} : cutL xs none (some (k : Int)) = xs.take k := by
  unfold cutL
  rw [HT.sIx_none, HT.sIx_nat, List.drop_zero, Nat.sub_zero]
  by_cases h : k ≤ xs.length
  · rw [Nat.min_eq_left h]
  · rw [Nat.min_eq_right (by omega), List.take_of_length_le (by omega), List.take_of_length_le (by omega)]
theorem cut_from {k : Nat} : cutL xs (some (k : Int)) none = xs.drop k := by
  unfold cutL
  rw [HT.sIx_none, HT.sIx_nat]
  by_cases h : k ≤ xs.length
  · rw [Nat.min_eq_left h, List.take_of_length_le (by simp)]
  · rw [Nat.min_eq_right (by omega), List.drop_of_length_le (Nat.le_refl _), List.drop_of_length_le (by omega)]
    simp
theorem cut_all : cutL xs none none = xs := by
  unfold cutL
  rw [HT.sIx_none, HT.sIx_none, List.drop_zero, Nat.sub_zero, List.take_length]
theorem cut_mid {j k : Nat} : cutL xs (some (j : Int)) (some (k : Int)) = (xs.drop j).take (k - j) := by
  unfold cutL
  rw [HT.sIx_nat, HT.sIx_nat]
  by_cases h : j ≤ xs.length
  · rw [Nat.min_eq_left h]
    by_cases h2 : k ≤ xs.length
    · rw [Nat.min_eq_left h2]
    · rw [Nat.min_eq_right (by omega), List.take_of_length_le (by simp), List.take_of_length_le (by simp; omega)]
  · have e1 : min j xs.length = xs.length := Nat.min_eq_right (by omega)
    rw [e1, List.drop_of_length_le (Nat.le_refl _), List.drop_of_length_le (by omega)]
    simp
theorem cut_init : cutL xs none (some (-1)) = xs.dropLast := by
  unfold cutL
  rw [HT.sIx_none]
  have : HT.sIx xs.length xs.length (some (-1)) = xs.length - 1 := by
    show (if (-1 : Int) < 0 then ((-1 : Int) + (xs.length : Int)).toNat else min (-1 : Int).toNat xs.length) = _
    rw [if_pos (by omega)]
    omega
  rw [this, List.drop_zero, Nat.sub_zero, List.dropLast_eq_take]
end
section
variable {α : Type} {xs : List α}
@[simp] theorem cut_t1 : cutL xs none (some 1) = xs.take 1 := cut_to
@[simp] theorem cut_t2 : cutL xs none (some 2) = xs.take 2 := cut_to
@[simp] theorem cut_t3 : cutL xs none (some 3) = xs.take 3 := cut_to
@[simp] theorem cut_t5 : cutL xs none (some 5) = xs.take 5 := cut_to
@[simp] theorem cut_t6 : cutL xs none (some 6) = xs.take 6 := cut_to
@[simp] theorem cut_t7 : cutL xs none (some 7) = xs.take 7 := cut_to
@[simp] theorem cut_t63 : cutL xs none (some 63) = xs.take 63 := cut_to
@[simp] theorem cut_t64 : cutL xs none (some 64) = xs.take 64 := cut_to
@[simp] theorem cut_f1 : cutL xs (some 1) none = xs.drop 1 := cut_from
@[simp] theorem cut_f2 : cutL xs (some 2) none = xs.drop 2 := cut_from
@[simp] theorem cut_f3 : cutL xs (some 3) none = xs.drop 3 := cut_from
@[simp] theorem cut_12 : cutL xs (some 1) (some 2) = (xs.drop 1).take 1 := cut_mid (j := 1) (k := 2)
@[simp] theorem cut_m1 : cutL xs none (some (-1)) = xs.dropLast := cut_init
@[simp] theorem cut_nn : cutL xs none none = xs := cut_all
@[simp] theorem cut_tn {k : Nat} : cutL xs none (some (k : Int)) = xs.take k := cut_to
@[simp] theorem cut_fn {k : Nat} : cutL xs (some (k : Int)) none = xs.drop k := cut_from
@[simp] theorem cut_fn1 {k : Nat} : cutL xs (some ((k : Int) + 1)) none = xs.drop (k + 1) := cut_from (k := k + 1)
@[simp] theorem cut_mm1 {k : Nat} : cutL xs (some (k : Int)) (some ((k : Int) + 1)) = (xs.drop k).take 1 := by
  have := cut_mid (xs := xs) (j := k) (k := k + 1)
  rw [Nat.add_sub_cancel_left] at this
  exact this
@[simp] theorem sli_t {lo hi : Option Int} {ds : List D} : sliD (.tup ds) lo hi = some (.tup (cutL ds lo hi)) := by simp [sliD]
@[simp] theorem sli_l {lo hi : Option Int} {ds : List D} : sliD (.lst ds) lo hi = some (.lst (cutL ds lo hi)) := by simp [sliD]
theorem zip_eq : ∀ {ds es : List D}, zipD ds es = (ds.zip es).map fun ab => .tup [ab.1, ab.2]
  | [], _ => by simp [zipD]
  | _ :: _, [] => by simp [zipD]
  | d :: ds, e :: es => by simp [zipD, zip_eq (ds := ds)]
@[simp] theorem zipK_t {ds es : List D} : zipK [.tup ds, .tup es] = some (zipD ds es) := by simp [zipK]
@[simp] theorem zipK_l {ds es : List D} : zipK [.lst ds, .lst es] = some (zipD ds es) := by simp [zipK]
@[simp] theorem enumK_t {ds : List D} : enumK [.tup ds] = some (enumD 0 ds) := by simp [enumK, seqT]
@[simp] theorem enumK_l {ds : List D} : enumK [.lst ds] = some (enumD 0 ds) := by simp [enumK, seqT]
@[simp] theorem ll_s {n : Nat} : 0 < sizeLine := line_lt (by omega)
@[simp] theorem ll_0 : 0 ≤ sizeLine := line_le (by omega)
@[simp] theorem ll_1 : 1 ≤ sizeLine := line_le (by omega)
@[simp] theorem ll_2 : 2 ≤ sizeLine := line_le (by omega)
@[simp] theorem ll_3 : 3 ≤ sizeLine := line_le (by omega)
@[simp] theorem ll_4 : 4 ≤ sizeLine := line_le (by omega)
@[simp] theorem ll_5 : 5 ≤ sizeLine := line_le (by omega)
@[simp] theorem ll_6 : 6 ≤ sizeLine := line_le (by omega)
@[simp] theorem ll_7 : 7 ≤ sizeLine := line_le (by omega)
@[simp] theorem ll_8 : 8 ≤ sizeLine := line_le (by omega)
@[simp] theorem ll_9 : 9 ≤ sizeLine := line_le (by omega)
@[simp] theorem ll_10 : 10 ≤ sizeLine := line_le (by omega)
@[simp] theorem ll_11 : 11 ≤ sizeLine := line_le (by omega)
@[simp] theorem ll_12 : 12 ≤ sizeLine := line_le (by omega)
@[simp] theorem ll_13 : 13 ≤ sizeLine := line_le (by omega)
@[simp] theorem ll_14 : 14 ≤ sizeLine := line_le (by omega)
@[simp] theorem ll_15 : 15 ≤ sizeLine := line_le (by omega)
@[simp] theorem ll_16 : 16 ≤ sizeLine := line_le (by omega)
@[simp] theorem ll_17 : 17 ≤ sizeLine := line_le (by omega)
@[simp] theorem ll_18 : 18 ≤ sizeLine := line_le (by omega)
@[simp] theorem ll_19 : 19 ≤ sizeLine := line_le (by omega)
@[simp] theorem ll_20 : 20 ≤ sizeLine := line_le (by omega)
@[simp] theorem ll_21 : 21 ≤ sizeLine := line_le (by omega)
@[simp] theorem ll_22 : 22 ≤ sizeLine := line_le (by omega)
@[simp] theorem ll_23 : 23 ≤ sizeLine := line_le (by omega)
@[simp] theorem ll_24 : 24 ≤ sizeLine := line_le (by omega)
@[simp] theorem ll_25 : 25 ≤ sizeLine := line_le (by omega)
@[simp] theorem ll_26 : 26 ≤ sizeLine := line_le (by omega)
@[simp] theorem ll_27 : 27 ≤ sizeLine := line_le (by omega)
@[simp] theorem ll_28 : 28 ≤ sizeLine := line_le (by omega)
@[simp] theorem ll_29 : 29 ≤ sizeLine := line_le (by omega)
@[simp] theorem ll_30 : 30 ≤ sizeLine := line_le (by omega)
@[simp] theorem ll_31 : 31 ≤ sizeLine := line_le (by omega)
@[simp] theorem ll_32 : 32 ≤ sizeLine := line_le (by omega)
@[simp] theorem ll_33 : 33 ≤ sizeLine := line_le (by omega)
@[simp] theorem ll_34 : 34 ≤ sizeLine := line_le (by omega)
@[simp] theorem ll_35 : 35 ≤ sizeLine := line_le (by omega)
@[simp] theorem ll_36 : 36 ≤ sizeLine := line_le (by omega)
@[simp] theorem ll_37 : 37 ≤ sizeLine := line_le (by omega)
@[simp] theorem ll_38 : 38 ≤ sizeLine := line_le (by omega)
@[simp] theorem ll_39 : 39 ≤ sizeLine := line_le (by omega)
@[simp] theorem ll_40 : 40 ≤ sizeLine := line_le (by omega)
@[simp] theorem tuple_l {ds : List D} : tupleB [.lst ds] = some (.tup ds) := by simp [tupleB]
@[simp] theorem tuple_t {ds : List D} : tupleB [.tup ds] = some (.tup ds) := by simp [tupleB]
@[simp] theorem list_l {ds : List D} : listB [.lst ds] = some (.lst ds) := by simp [listB]
@[simp] theorem list_t {ds : List D} : listB [.tup ds] = some (.lst ds) := by simp [listB]
theorem rngK1_n {n : Nat} (h : n ≤ 1000000) : rngK1 [.int (n : Int)] = some (rngD 0 n) := by
  have : smlB (n : Int) = true := by
    unfold smlB
    simp only [Bool.and_eq_true, decide_eq_true_eq]
    omega
  simp [rngK1, this]
theorem rngK2_n {i : Int} {n : Nat} (h0 : 0 ≤ i) (h1 : i ≤ 1000000) (h : n ≤ 1000000) : rngK2 [.int i, .int (i + n)] = some (rngD i n) := by
  have e1 : smlB i = true := by
    unfold smlB
    simp only [Bool.and_eq_true, decide_eq_true_eq]
    omega
  have e2 : smlB (i + n) = true := by
    unfold smlB
    simp only [Bool.and_eq_true, decide_eq_true_eq]
    omega
  simp [rngK2, e1, e2]
  congr 1
  omega
@[simp] theorem lt_ss {a b : List Nat} : ltD (.str a) (.str b) = some (.bl (strLt a b)) := by simp [ltD, cmpD, intOp, strOp]
@[simp] theorem le_ss {a b : List Nat} : leD (.str a) (.str b) = some (.bl (!strLt b a)) := by simp [leD, cmpD, intOp, strOp]
@[simp] theorem is_n {d : D} (h : ∀ l, d ≠ .ref l) : isD false d .non = some (.bl (isNon d)) := by
  cases d with
  | ref l => exact absurd rfl (h l)
  | _ => simp [isD]
@[simp] theorem isn_n {d : D} (h : ∀ l, d ≠ .ref l) : isD true d .non = some (.bl (!isNon d)) := by
  cases d with
  | ref l => exact absurd rfl (h l)
  | _ => simp [isD]
end
end Mi
set_option Elab.async false
set_option linter.all false
set_option maxRecDepth 100000
set_option maxHeartbeats 0
namespace Lwk11
open PySem L2 Mi
/-- 'abcdefghijklmnopqrstuvwxyz' -/
def s0 : List Nat := [97, 98, 99, 100, 101, 102, 103, 104, 105, 106, 107, 108, 109, 110, 111, 112, 113, 114, 115, 116, 117, 118, 119, 120, 121, 122]
/-- '0123456789' -/
def s1 : List Nat := [48, 49, 50, 51, 52, 53, 54, 55, 56, 57]
/-- 'count' -/
def s2 : List Nat := [99, 111, 117, 110, 116]
/-- 'scan' -/
def s3 : List Nat := [115, 99, 97, 110]
/-- 'get' -/
def s4 : List Nat := [103, 101, 116]
/-- 'reader' -/
def s5 : List Nat := [114, 101, 97, 100, 101, 114]
/-- 'transaction' -/
def s6 : List Nat := [116, 114, 97, 110, 115, 97, 99, 116, 105, 111, 110]
/-- '' -/
def s7 : List Nat := []
/-- 'abcdefghijklmnopqrstuvwxyz0123456789' -/
def s8 : List Nat := [97, 98, 99, 100, 101, 102, 103, 104, 105, 106, 107, 108, 109, 110, 111, 112, 113, 114, 115, 116, 117, 118, 119, 120, 121, 122, 48, 49, 50, 51, 52, 53, 54, 55, 56, 57]
/-- 'z' -/
def s9 : List Nat := [122]
/-- 'a' -/
def s10 : List Nat := [97]
/-- 'zzzzzzzz' -/
def s11 : List Nat := [122, 122, 122, 122, 122, 122, 122, 122]
/-- '_' -/
def s12 : List Nat := [95]
/-- '-' -/
def s13 : List Nat := [45]
/-- ' ' -/
def s14 : List Nat := [32]
/-- 'A' -/
def s15 : List Nat := [65]
/-- '7' -/
def s16 : List Nat := [55]
def s17 : List Nat := [10]
/-- 'abcdefghi' -/
def s18 : List Nat := [97, 98, 99, 100, 101, 102, 103, 104, 105]
/-- '1.5' -/
def s19 : List Nat := [49, 46, 53]
/-- 'a_b' -/
def s20 : List Nat := [97, 95, 98]
/-- 'a0b1c2d3e' -/
def s21 : List Nat := [97, 48, 98, 49, 99, 50, 100, 51, 101]
/-- 'count ' -/
def s22 : List Nat := [99, 111, 117, 110, 116, 32]
/-- 's' -/
def s23 : List Nat := [115]
/-- 'gets' -/
def s24 : List Nat := [103, 101, 116, 115]
/-- 'Get' -/
def s25 : List Nat := [71, 101, 116]
/-- 'x' -/
def s26 : List Nat := [120]
/-- 'zz' -/
def s27 : List Nat := [122, 122]
/-- 'take' -/
def s28 : List Nat := [116, 97, 107, 101]
/-- 'K' -/
def s29 : List Nat := [75]
/-- '01234567' -/
def s30 : List Nat := [48, 49, 50, 51, 52, 53, 54, 55]
def b_is_integer : Ss := (.cons (.ret (.and (.isi .int (.var 0)) (.not (.isi .bool (.var 0))))) .nil)
def F_is_integer : Fn := runF 1 1 b_is_integer.ms
def b_is_below : Ss := (.cons (.ret (.and (.call F_is_integer (.cons (.var 0) .nil) .nil) (.chain .le .lt (.con (.int 0)) (.var 0) (.var 1)))) .nil)
def F_is_below : Fn := runF 2 2 b_is_below.ms
def b_is_written : Ss := (.cons (.ite (.or (.not (.isi .str (.var 0))) (.not (.chain .le .le (.con (.int 1)) (.bi .len (.cons (.var 0) .nil)) (.con (.int 8))))) (.cons (.ret (.con (.bl false))) .nil) .nil) (.cons (.ret (.bi .all (.cons (.lc (.seq (.var 0)) (.nm 2) [2] .no (.cmp .isin (.var 2) (.var 1))) .nil))) .nil))
def F_is_written : Fn := runF 3 2 b_is_written.ms
def b_is_key : Ss := (.cons (.ret (.call F_is_written (.cons (.var 0) (.cons (.con (.str s0)) .nil)) .nil)) .nil)
def F_is_key : Fn := runF 1 1 b_is_key.ms
def b_is_value : Ss := (.cons (.ret (.call F_is_written (.cons (.var 0) (.cons (.op .add (.con (.str s0)) (.con (.str s1))) .nil)) .nil)) .nil)
def F_is_value : Fn := runF 1 1 b_is_value.ms
def b_is_number : Ss := (.cons (.ret (.and (.call F_is_integer (.cons (.var 0) .nil) .nil) (.chain .le .le (.con (.int 1)) (.var 0) (.con (.int 999999))))) .nil)
def F_is_number : Fn := runF 1 1 b_is_number.ms
def b_is_moment : Ss := (.cons (.ret (.call F_is_below (.cons (.var 0) (.cons (.op .add (.con (.int 999999)) (.con (.int 1))) .nil)) .nil)) .nil)
def F_is_moment : Fn := runF 1 1 b_is_moment.ms
def b_is_question : Ss := (.cons (.ite (.or (.not (.isi .tuple (.var 0))) (.or (.cmp .eq (.var 0) (.tup .nil)) (.not (.isi .str (.idx (.var 0) (.con (.int 0))))))) (.cons (.ret (.con (.bl false))) .nil) .nil) (.cons (.ite (.cmp .eq (.idx (.var 0) (.con (.int 0))) (.con (.str s4))) (.cons (.ret (.and (.cmp .eq (.bi .len (.cons (.var 0) .nil)) (.con (.int 2))) (.call F_is_key (.cons (.idx (.var 0) (.con (.int 1))) .nil) .nil))) .nil) .nil) (.cons (.ite (.cmp .eq (.idx (.var 0) (.con (.int 0))) (.con (.str s3))) (.cons (.ret (.and (.cmp .eq (.bi .len (.cons (.var 0) .nil)) (.con (.int 3))) (.and (.call F_is_key (.cons (.idx (.var 0) (.con (.int 1))) .nil) .nil) (.call F_is_key (.cons (.idx (.var 0) (.con (.int 2))) .nil) .nil)))) .nil) .nil) (.cons (.ret (.and (.cmp .eq (.idx (.var 0) (.con (.int 0))) (.con (.str s2))) (.cmp .eq (.bi .len (.cons (.var 0) .nil)) (.con (.int 1))))) .nil))))
def F_is_question : Fn := runF 1 1 b_is_question.ms
def b_is_pair : Ss := (.cons (.ret (.and (.isi .tuple (.var 0)) (.and (.cmp .eq (.bi .len (.cons (.var 0) .nil)) (.con (.int 2))) (.and (.call F_is_key (.cons (.idx (.var 0) (.con (.int 0))) .nil) .nil) (.call F_is_value (.cons (.idx (.var 0) (.con (.int 1))) .nil) .nil))))) .nil)
def F_is_pair : Fn := runF 1 1 b_is_pair.ms
def b_are_pairs : Ss := (.cons (.ite (.or (.not (.isi .tuple (.var 0))) (.or (.cmp .gt (.bi .len (.cons (.var 0) .nil)) (.con (.int 64))) (.not (.bi .all (.cons (.lc (.seq (.var 0)) (.nm 3) [3] .no (.call F_is_pair (.cons (.var 3) .nil) .nil)) .nil))))) (.cons (.ret (.con (.bl false))) .nil) .nil) (.cons (.ite (.not (.bi .all (.cons (.lc (.seq (.var 0)) (.nm 3) [3] .no (.chain .le .le (.var 1) (.idx (.var 3) (.con (.int 0))) (.var 2))) .nil))) (.cons (.ret (.con (.bl false))) .nil) .nil) (.cons (.ret (.bi .all (.cons (.lc (.zip (.cons (.var 0) (.cons (.sli (.var 0) (.so (.con (.int 1))) .no) .nil))) (.tup (.cons (.nm 3) (.cons (.nm 4) .nil))) [3, 4] .no (.cmp .lt (.idx (.var 3) (.con (.int 0))) (.idx (.var 4) (.con (.int 0))))) .nil))) .nil)))
def F_are_pairs : Fn := runF 5 3 b_are_pairs.ms
def b_is_answer : Ss := (.cons (.ite (.not (.call F_is_question (.cons (.var 0) .nil) .nil)) (.cons (.ret (.con (.bl false))) .nil) .nil) (.cons (.ite (.cmp .eq (.idx (.var 0) (.con (.int 0))) (.con (.str s4))) (.cons (.ret (.or (.cmp .is (.var 1) (.con .non)) (.call F_is_value (.cons (.var 1) .nil) .nil))) .nil) .nil) (.cons (.ite (.cmp .eq (.idx (.var 0) (.con (.int 0))) (.con (.str s3))) (.cons (.ret (.call F_are_pairs (.cons (.var 1) (.cons (.idx (.var 0) (.con (.int 1))) (.cons (.idx (.var 0) (.con (.int 2))) .nil))) .nil)) .nil) .nil) (.cons (.ret (.call F_is_below (.cons (.var 1) (.cons (.op .add (.con (.int 64)) (.con (.int 1))) .nil)) .nil)) .nil))))
def F_is_answer : Fn := runF 2 2 b_is_answer.ms
def b_is_note : Ss := (.cons (.ite (.or (.not (.isi .tuple (.var 0))) (.cmp .ne (.bi .len (.cons (.var 0) .nil)) (.con (.int 3)))) (.cons (.ret (.con (.bl false))) .nil) .nil) (.cons (.ret (.and (.call F_is_moment (.cons (.idx (.var 0) (.con (.int 0))) .nil) .nil) (.call F_is_answer (.cons (.idx (.var 0) (.con (.int 1))) (.cons (.idx (.var 0) (.con (.int 2))) .nil)) .nil))) .nil))
def F_is_note : Fn := runF 1 1 b_is_note.ms
def b_are_notes : Ss := (.cons (.ite (.or (.not (.isi .tuple (.var 0))) (.not (.bi .all (.cons (.lc (.seq (.var 0)) (.nm 1) [1] .no (.call F_is_note (.cons (.var 1) .nil) .nil)) .nil)))) (.cons (.ret (.con (.bl false))) .nil) .nil) (.cons (.ret (.bi .all (.cons (.lc (.zip (.cons (.var 0) (.cons (.sli (.var 0) (.so (.con (.int 1))) .no) .nil))) (.tup (.cons (.nm 1) (.cons (.nm 2) .nil))) [1, 2] .no (.cmp .le (.idx (.var 1) (.con (.int 0))) (.idx (.var 2) (.con (.int 0))))) .nil))) .nil))
def F_are_notes : Fn := runF 3 1 b_are_notes.ms
def b_is_run : Ss := (.cons (.ite (.or (.not (.isi .tuple (.var 0))) (.or (.cmp .eq (.var 0) (.tup .nil)) (.not (.isi .str (.idx (.var 0) (.con (.int 0))))))) (.cons (.ret (.con (.bl false))) .nil) .nil) (.cons (.ite (.cmp .eq (.idx (.var 0) (.con (.int 0))) (.con (.str s6))) (.cons (.ret (.and (.cmp .eq (.bi .len (.cons (.var 0) .nil)) (.con (.int 3))) (.and (.call F_is_number (.cons (.idx (.var 0) (.con (.int 1))) .nil) .nil) (.call F_are_notes (.cons (.idx (.var 0) (.con (.int 2))) .nil) .nil)))) .nil) .nil) (.cons (.ite (.or (.cmp .ne (.idx (.var 0) (.con (.int 0))) (.con (.str s5))) (.cmp .ne (.bi .len (.cons (.var 0) .nil)) (.con (.int 4)))) (.cons (.ret (.con (.bl false))) .nil) .nil) (.cons (.ret (.and (.call F_is_moment (.cons (.idx (.var 0) (.con (.int 1))) .nil) .nil) (.and (.call F_is_moment (.cons (.idx (.var 0) (.con (.int 2))) .nil) .nil) (.call F_are_notes (.cons (.idx (.var 0) (.con (.int 3))) .nil) .nil)))) .nil))))
def F_is_run : Fn := runF 1 1 b_is_run.ms
def b_is_account : Ss := (.cons (.ite (.or (.not (.isi .tuple (.var 0))) (.or (.cmp .ne (.bi .len (.cons (.var 0) .nil)) (.con (.int 2))) (.or (.not (.call F_is_key (.cons (.idx (.var 0) (.con (.int 0))) .nil) .nil)) (.not (.isi .tuple (.idx (.var 0) (.con (.int 1)))))))) (.cons (.ret (.con (.bl false))) .nil) .nil) (.cons (.ret (.and (.chain .le .le (.con (.int 1)) (.bi .len (.cons (.idx (.var 0) (.con (.int 1))) .nil)) (.con (.int 12))) (.bi .all (.cons (.lc (.seq (.idx (.var 0) (.con (.int 1)))) (.nm 1) [1] .no (.call F_is_run (.cons (.var 1) .nil) .nil)) .nil)))) .nil))
def F_is_account : Fn := runF 2 1 b_is_account.ms
def b_first_wrong : Ss := (.cons (.par [1, 2, 3, 4] (.cons (.lst .nil) (.cons (.lst .nil) (.cons (.con (.int 0)) (.cons (.con (.int 0)) .nil))))) (.cons (.for (.enum (.cons (.var 0) .nil)) (.tup (.cons (.nm 5) (.cons (.nm 6) .nil))) (.cons (.ite (.or (.cmp .eq (.var 5) (.con (.int 6))) (.or (.not (.call F_is_account (.cons (.var 6) .nil) .nil)) (.cmp .isin (.idx (.var 6) (.con (.int 0))) (.var 1)))) (.cons (.retV 5) .nil) .nil) (.cons (.expr (.app 1 (.idx (.var 6) (.con (.int 0))))) (.cons (.asg 7 (.lc (.seq (.idx (.var 6) (.con (.int 1)))) (.nm 8) [8] (.so (.cmp .eq (.idx (.var 8) (.con (.int 0))) (.con (.str s6)))) (.idx (.var 8) (.con (.int 1))))) (.cons (.aug 3 .add (.bi .sum (.cons (.lc (.seq (.idx (.var 6) (.con (.int 1)))) (.nm 8) [8] .no (.bi .len (.cons (.idx (.var 8) (.neg (.con (.int 1)))) .nil))) .nil))) (.cons (.aug 4 .add (.op .sub (.bi .len (.cons (.idx (.var 6) (.con (.int 1))) .nil)) (.bi .len (.cons (.var 7) .nil)))) (.cons (.ite (.or (.cmp .gt (.var 3) (.con (.int 60))) (.cmp .gt (.var 4) (.con (.int 5)))) (.cons (.retV 5) .nil) .nil) (.cons (.for (.seq (.var 7)) (.nm 9) (.cons (.ite (.cmp .isin (.var 9) (.var 2)) (.cons (.retV 5) .nil) .nil) (.cons (.expr (.app 2 (.var 9))) .nil))) .nil)))))))) (.cons (.ret (.con .non)) .nil)))
def F_first_wrong : Fn := runF 10 1 b_first_wrong.ms
def b_are_accounts : Ss := (.cons (.ret (.and (.isi .tuple (.var 0)) (.cmp .is (.call F_first_wrong (.cons (.var 0) .nil) .nil) (.con .non)))) .nil)
def F_are_accounts : Fn := runF 1 1 b_are_accounts.ms
def b_law_pen : Ss := (.cons (.ret (.lst (.cons (.bi .list (.cons (.sli (.var 0) .no (.so (.con (.int 63)))) .nil)) (.cons (.con (.int 0)) (.cons (.con (.int 0)) .nil))))) .nil)
def F_law_pen : Fn := runF 1 1 b_law_pen.ms
def b_law_draw : Ss := (.cons (.ite (.cmp .gt (.idx (.var 0) (.con (.int 2))) (.con (.int 0))) (.cons (.asg 2 (.op .mod (.bi .int (.cons (.idx (.var 0) (.con (.int 2))) .nil)) (.var 1))) (.cons (.set 0 (.con (.int 2)) (.op .fdiv (.bi .int (.cons (.idx (.var 0) (.con (.int 2))) .nil)) (.var 1))) (.cons (.retV 2) .nil))) .nil) (.cons (.asg 3 (.idx (.var 0) (.con (.int 1)))) (.cons (.set 0 (.con (.int 1)) (.op .add (.var 3) (.con (.int 1)))) (.cons (.asg 4 (.op .add (.op .mul (.con (.int 61343)) (.var 3)) (.con (.int 977)))) (.cons (.ite (.cmp .ne (.idx (.var 0) (.con (.int 0))) (.lst .nil)) (.cons (.asg 4 (.idx (.idx (.var 0) (.con (.int 0))) (.op .mod (.bi .int (.cons (.var 3) .nil)) (.bi .len (.cons (.idx (.var 0) (.con (.int 0))) .nil))))) .nil) .nil) (.cons (.ite (.and (.cmp .lt (.var 3) (.bi .len (.cons (.idx (.var 0) (.con (.int 0))) .nil))) (.cmp .ge (.bi .abs (.cons (.var 4) .nil)) (.op .pow (.con (.int 10)) (.con (.int 18))))) (.cons (.asg 5 (.op .add (.op .mul (.con (.int 2)) (.op .sub (.bi .abs (.cons (.var 4) .nil)) (.op .pow (.con (.int 10)) (.con (.int 18))))) (.bi .int (.cons (.cmp .lt (.var 4) (.con (.int 0))) .nil)))) (.cons (.set 0 (.con (.int 2)) (.op .fdiv (.bi .int (.cons (.var 5) .nil)) (.var 1))) (.cons (.ret (.op .mod (.bi .int (.cons (.var 5) .nil)) (.var 1))) .nil))) .nil) (.cons (.asg 6 (.op .mod (.bi .int (.cons (.op .pow (.op .add (.op .add (.op .mod (.bi .int (.cons (.var 4) .nil)) (.con (.int 2147483549))) (.op .mul (.con (.int 52919)) (.var 3))) (.con (.int 41))) (.con (.int 5))) .nil)) (.con (.int 2147483587)))) (.cons (.asg 6 (.op .mod (.bi .int (.cons (.op .pow (.op .add (.op .add (.op .mul (.var 6) (.op .add (.op .mul (.con (.int 2)) (.var 3)) (.con (.int 73)))) (.op .mul (.op .mul (.con (.int 36293)) (.var 3)) (.var 3))) (.con (.int 59))) (.con (.int 3))) .nil)) (.con (.int 2147483629)))) (.cons (.ret (.op .mod (.bi .int (.cons (.op .fdiv (.var 6) (.con (.int 32))) .nil)) (.var 1))) .nil)))))))))
def F_law_draw : Fn := runF 7 2 b_law_draw.ms
def b_law_pick : Ss := (.cons (.ret (.idx (.var 1) (.call F_law_draw (.cons (.var 0) (.cons (.bi .len (.cons (.var 1) .nil)) .nil)) .nil))) .nil)
def F_law_pick : Fn := runF 2 2 b_law_pick.ms
def b_law_text : Ss := (.cons (.ret (.join (.con (.str s7)) (.lc (.rng1 (.cons (.call F_law_pick (.cons (.var 0) (.cons (.lst (.cons (.con (.int 1)) (.cons (.con (.int 8)) (.cons (.con (.int 2)) (.cons (.con (.int 3)) (.cons (.con (.int 5)) .nil)))))) .nil)) .nil) .nil)) (.nm 2) [2] .no (.call F_law_pick (.cons (.var 0) (.cons (.var 1) .nil)) .nil)))) .nil)
def F_law_text : Fn := runF 3 2 b_law_text.ms
def b_law_key : Ss := (.cons (.ret (.call F_law_text (.cons (.var 0) (.cons (.con (.str s0)) .nil)) .nil)) .nil)
def F_law_key : Fn := runF 1 1 b_law_key.ms
def b_law_value : Ss := (.cons (.ret (.call F_law_text (.cons (.var 0) (.cons (.con (.str s8)) .nil)) .nil)) .nil)
def F_law_value : Fn := runF 1 1 b_law_value.ms
def b_law_keys : Ss := (.cons (.par [2, 3] (.cons (.con (.str s0)) (.cons (.sli (.call F_law_key (.cons (.var 0) .nil) .nil) .no (.so (.call F_law_draw (.cons (.var 0) (.cons (.con (.int 7)) .nil)) .nil))) .nil))) (.cons (.par [4, 5] (.cons (.call F_law_draw (.cons (.var 0) (.cons (.op .sub (.con (.int 676)) (.var 1)) .nil)) .nil) (.cons (.lst .nil) .nil))) (.cons (.for (.rng2 (.cons (.var 4) (.cons (.op .add (.var 4) (.var 1)) .nil))) (.nm 6) (.cons (.asg 7 (.ite (.cmp .lt (.bi .len (.cons (.var 3) .nil)) (.con (.int 6))) (.call F_law_pick (.cons (.var 0) (.cons (.lst (.cons (.con (.str s7)) (.cons (.con (.str s7)) (.cons (.con (.str s10)) (.cons (.con (.str s9)) .nil))))) .nil)) .nil) (.con (.str s7)))) (.cons (.expr (.app 5 (.op .add (.op .add (.op .add (.var 3) (.idx (.var 2) (.op .fdiv (.var 6) (.con (.int 26))))) (.idx (.var 2) (.op .mod (.bi .int (.cons (.var 6) .nil)) (.con (.int 26))))) (.var 7)))) .nil))) (.cons (.retV 5) .nil))))
def F_law_keys : Fn := runF 8 2 b_law_keys.ms
def b_law_pairs : Ss := (.cons (.asg 2 (.lc (.rng1 (.cons (.con (.int 3)) .nil)) (.nm 3) [3] .no (.call F_law_value (.cons (.var 0) .nil) .nil))) (.cons (.ret (.bi .tuple (.cons (.lc (.enum (.cons (.call F_law_keys (.cons (.var 0) (.cons (.var 1) .nil)) .nil) .nil)) (.tup (.cons (.nm 4) (.cons (.nm 5) .nil))) [4, 5] .no (.tup (.cons (.var 5) (.cons (.idx (.var 2) (.op .mod (.bi .int (.cons (.var 4) .nil)) (.con (.int 3)))) .nil)))) .nil))) .nil))
def F_law_pairs : Fn := runF 6 2 b_law_pairs.ms
def b_law_asked : Ss := (.cons (.asg 2 (.call F_law_draw (.cons (.var 0) (.cons (.con (.int 3)) .nil)) .nil)) (.cons (.ite (.cmp .eq (.var 2) (.con (.int 0))) (.cons (.ret (.tup (.cons (.tup (.cons (.con (.str s4)) (.cons (.call F_law_key (.cons (.var 0) .nil) .nil) .nil))) (.cons (.call F_law_pick (.cons (.var 0) (.cons (.lst (.cons (.con .non) (.cons (.call F_law_value (.cons (.var 0) .nil) .nil) .nil))) .nil)) .nil) .nil)))) .nil) .nil) (.cons (.ite (.cmp .eq (.var 2) (.con (.int 1))) (.cons (.ret (.tup (.cons (.tup (.cons (.con (.str s2)) .nil)) (.cons (.call F_law_pick (.cons (.var 0) (.cons (.lst (.cons (.con (.int 0)) (.cons (.con (.int 64)) (.cons (.op .add (.con (.int 1)) (.call F_law_draw (.cons (.var 0) (.cons (.con (.int 63)) .nil)) .nil)) .nil)))) .nil)) .nil) .nil)))) .nil) .nil) (.cons (.asg 3 (.call F_law_pairs (.cons (.var 0) (.cons (.call F_law_pick (.cons (.var 0) (.cons (.lst (.cons (.con (.int 0)) (.cons (.con (.int 1)) (.cons (.con (.int 2)) (.cons (.var 1) .nil))))) .nil)) .nil) .nil)) .nil)) (.cons (.ite (.cmp .eq (.var 3) (.tup .nil)) (.cons (.ret (.tup (.cons (.tup (.cons (.con (.str s3)) (.cons (.call F_law_key (.cons (.var 0) .nil) .nil) (.cons (.call F_law_key (.cons (.var 0) .nil) .nil) .nil)))) (.cons (.tup .nil) .nil)))) .nil) .nil) (.cons (.par [4, 5] (.cons (.idx (.idx (.var 3) (.con (.int 0))) (.con (.int 0))) (.cons (.idx (.idx (.var 3) (.neg (.con (.int 1)))) (.con (.int 0))) .nil))) (.cons (.ret (.tup (.cons (.tup (.cons (.con (.str s3)) (.cons (.call F_law_pick (.cons (.var 0) (.cons (.lst (.cons (.var 4) (.cons (.con (.str s10)) (.cons (.sli (.var 4) .no (.so (.con (.int 1)))) .nil)))) .nil)) .nil) (.cons (.call F_law_pick (.cons (.var 0) (.cons (.lst (.cons (.var 5) (.cons (.con (.str s11)) .nil))) .nil)) .nil) .nil)))) (.cons (.var 3) .nil)))) .nil)))))))
def F_law_asked : Fn := runF 6 2 b_law_asked.ms
def b_law_moments : Ss := (.cons (.par [2, 3] (.cons (.call F_law_pick (.cons (.var 0) (.cons (.lst (.cons (.con (.int 0)) (.cons (.con (.int 0)) (.cons (.con (.int 5)) (.cons (.con (.int 400)) .nil))))) .nil)) .nil) (.cons (.lst .nil) .nil))) (.cons (.for (.rng1 (.cons (.var 1) .nil)) (.nm 4) (.cons (.expr (.app 3 (.var 2))) (.cons (.asg 2 (.bi .min (.cons (.con (.int 999999)) (.cons (.op .add (.var 2) (.call F_law_pick (.cons (.var 0) (.cons (.lst (.cons (.con (.int 0)) (.cons (.con (.int 1)) (.cons (.con (.int 1)) (.cons (.call F_law_draw (.cons (.var 0) (.cons (.con (.int 400000)) .nil)) .nil) .nil))))) .nil)) .nil)) .nil)))) .nil))) (.cons (.retV 3) .nil)))
def F_law_moments : Fn := runF 5 2 b_law_moments.ms
def b_law_run : Ss := (.cons (.asg 3 (.bi .tuple (.cons (.lc (.seq (.call F_law_moments (.cons (.var 0) (.cons (.var 2) .nil)) .nil)) (.nm 4) [4] .no (.op .add (.tup (.cons (.var 4) .nil)) (.call F_law_asked (.cons (.var 0) (.cons (.con (.int 4)) .nil)) .nil))) .nil))) (.cons (.ite (.cmp .isn (.var 1) (.con .non)) (.cons (.ret (.tup (.cons (.con (.str s6)) (.cons (.var 1) (.cons (.var 3) .nil))))) .nil) .nil) (.cons (.asg 5 (.lc (.rng1 (.cons (.con (.int 2)) .nil)) (.nm 6) [6] .no (.call F_law_pick (.cons (.var 0) (.cons (.lst (.cons (.con (.int 0)) (.cons (.con (.int 7)) (.cons (.con (.int 999999)) (.cons (.call F_law_draw (.cons (.var 0) (.cons (.con (.int 1000000)) .nil)) .nil) .nil))))) .nil)) .nil))) (.cons (.ret (.tup (.cons (.con (.str s5)) (.cons (.idx (.var 5) (.con (.int 0))) (.cons (.idx (.var 5) (.con (.int 1))) (.cons (.var 3) .nil)))))) .nil))))
def F_law_run : Fn := runF 7 3 b_law_run.ms
def b_law_accounts : Ss := (.cons (.par [2, 3, 4] (.cons (.stp (.call F_law_keys (.cons (.var 0) (.cons (.con (.int 6)) .nil)) .nil) (.call F_law_pick (.cons (.var 0) (.cons (.lst (.cons (.con (.int 1)) (.cons (.neg (.con (.int 1))) .nil))) .nil)) .nil)) (.cons (.lst .nil) (.cons (.con (.int 0)) .nil)))) (.cons (.asg 5 (.call F_law_draw (.cons (.var 0) (.cons (.con (.int 999999)) .nil)) .nil)) (.cons (.for (.rng1 (.cons (.bi .max (.cons (.var 1) (.cons (.call F_law_draw (.cons (.var 0) (.cons (.con (.int 7)) .nil)) .nil) .nil))) .nil)) (.nm 6) (.cons (.asg 7 (.lst .nil)) (.cons (.for (.rng1 (.cons (.call F_law_pick (.cons (.var 0) (.cons (.lst (.cons (.con (.int 1)) (.cons (.con (.int 1)) (.cons (.con (.int 2)) (.cons (.con (.int 3)) .nil))))) .nil)) .nil) .nil)) (.nm 8) (.cons (.asg 9 (.and (.cmp .lt (.var 4) (.con (.int 5))) (.cmp .eq (.call F_law_draw (.cons (.var 0) (.cons (.con (.int 3)) .nil)) .nil) (.con (.int 0))))) (.cons (.asg 4 (.op .add (.var 4) (.bi .int (.cons (.var 9) .nil)))) (.cons (.asg 10 (.ite (.var 9) (.con .non) (.op .add (.con (.int 1)) (.op .mod (.bi .int (.cons (.op .add (.var 5) (.op .mul (.con (.int 7919)) (.op .add (.op .mul (.con (.int 3)) (.var 6)) (.var 8)))) .nil)) (.con (.int 999999)))))) (.cons (.expr (.app 7 (.call F_law_run (.cons (.var 0) (.cons (.var 10) (.cons (.call F_law_pick (.cons (.var 0) (.cons (.lst (.cons (.con (.int 0)) (.cons (.con (.int 1)) (.cons (.con (.int 2)) (.cons (.con (.int 3)) .nil))))) .nil)) .nil) .nil))) .nil))) .nil))))) (.cons (.expr (.app 3 (.tup (.cons (.idx (.var 2) (.var 6)) (.cons (.bi .tuple (.cons (.var 7) .nil)) .nil))))) .nil)))) (.cons (.ret (.bi .tuple (.cons (.var 3) .nil))) .nil))))
def F_law_accounts : Fn := runF 11 2 b_law_accounts.ms
def b_law_full : Ss := (.cons (.par [1, 2, 3] (.cons (.call F_law_keys (.cons (.var 0) (.cons (.con (.int 6)) .nil)) .nil) (.cons (.lst .nil) (.cons (.call F_law_draw (.cons (.var 0) (.cons (.con (.int 14)) .nil)) .nil) .nil)))) (.cons (.par [4, 5] (.cons (.call F_law_draw (.cons (.var 0) (.cons (.con (.int 999999)) .nil)) .nil) (.cons (.call F_law_pick (.cons (.var 0) (.cons (.lst (.cons (.con .non) (.cons (.call F_law_draw (.cons (.var 0) (.cons (.con (.int 72)) .nil)) .nil) .nil))) .nil)) .nil) .nil))) (.cons (.for (.rng1 (.cons (.con (.int 6)) .nil)) (.nm 6) (.cons (.asg 7 (.lst .nil)) (.cons (.for (.rng2 (.cons (.op .mul (.con (.int 12)) (.var 6)) (.cons (.op .add (.op .mul (.con (.int 12)) (.var 6)) (.con (.int 12))) .nil))) (.nm 8) (.cons (.asg 9 (.ite (.cmp .is (.var 5) (.con .non)) (.bi .int (.cons (.cmp .lt (.var 8) (.con (.int 60))) .nil)) (.op .mul (.con (.int 60)) (.bi .int (.cons (.cmp .eq (.var 8) (.var 5)) .nil))))) (.cons (.asg 10 (.bi .tuple (.cons (.lc (.rng1 (.cons (.var 9) .nil)) (.nm 11) [11] .no (.tup (.cons (.op .add (.op .fdiv (.var 8) (.con (.int 3))) (.op .fdiv (.var 11) (.con (.int 2)))) (.cons (.tup (.cons (.con (.str s2)) .nil)) (.cons (.op .mod (.bi .int (.cons (.op .add (.var 8) (.var 11)) .nil)) (.con (.int 65))) .nil))))) .nil))) (.cons (.asg 12 (.and (.cmp .eq (.op .mod (.bi .int (.cons (.op .sub (.var 8) (.var 3)) .nil)) (.con (.int 14))) (.con (.int 0))) (.chain .le .lt (.con (.int 0)) (.op .sub (.var 8) (.var 3)) (.con (.int 70))))) (.cons (.expr (.app 7 (.ite (.var 12) (.tup (.cons (.con (.str s5)) (.cons (.var 8) (.cons (.con (.int 7)) (.cons (.var 10) .nil))))) (.tup (.cons (.con (.str s6)) (.cons (.op .add (.con (.int 1)) (.op .mod (.bi .int (.cons (.op .add (.var 4) (.op .mul (.con (.int 7919)) (.var 8))) .nil)) (.con (.int 999999)))) (.cons (.var 10) .nil))))))) .nil))))) (.cons (.expr (.app 2 (.tup (.cons (.idx (.var 1) (.var 6)) (.cons (.bi .tuple (.cons (.var 7) .nil)) .nil))))) .nil)))) (.cons (.ret (.bi .tuple (.cons (.var 2) .nil))) .nil))))
def F_law_full : Fn := runF 13 1 b_law_full.ms
def b_law_swap : Ss := (.cons (.ret (.op .add (.op .add (.sli (.var 0) .no (.so (.var 1))) (.tup (.cons (.var 2) .nil))) (.sli (.var 0) (.so (.op .add (.var 1) (.con (.int 1)))) .no))) .nil)
def F_law_swap : Fn := runF 3 3 b_law_swap.ms
def b_law_odd_keys : Ss := (.cons (.asg 2 (.lst (.cons (.con (.str s7)) (.cons (.con (.str s18)) (.cons (.op .add (.sli (.var 1) .no (.so (.con (.int 7)))) (.con (.str s17))) (.cons (.op .add (.sli (.var 1) .no (.so (.con (.int 7)))) (.con (.str s16))) (.cons (.op .add (.sli (.var 1) .no (.so (.con (.int 7)))) (.con (.str s15))) (.cons (.op .add (.con (.str s14)) (.sli (.var 1) .no (.so (.con (.int 7))))) (.cons (.op .add (.op .add (.sli (.var 1) .no (.so (.con (.int 3)))) (.con (.str s13))) (.sli (.var 1) .no (.so (.con (.int 3))))) .nil))))))))) (.cons (.ret (.op .add (.var 2) (.lst (.cons (.up (.var 1)) (.cons (.con .non) (.cons (.con (.int 5)) (.cons (.con (.bl true)) (.cons (.tup (.cons (.var 1) .nil)) (.cons (.lst (.cons (.var 1) .nil)) (.cons (.con (.str s12)) .nil)))))))))) .nil))
def F_law_odd_keys : Fn := runF 3 2 b_law_odd_keys.ms
def b_law_odd_values : Ss := (.cons (.asg 2 (.lst (.cons (.con (.str s7)) (.cons (.con (.str s21)) (.cons (.op .add (.sli (.var 1) .no (.so (.con (.int 7)))) (.con (.str s17))) (.cons (.op .add (.sli (.var 1) .no (.so (.con (.int 7)))) (.con (.str s15))) (.cons (.op .add (.sli (.var 1) .no (.so (.con (.int 7)))) (.con (.str s14))) (.cons (.op .add (.con (.str s13)) (.sli (.var 1) .no (.so (.con (.int 7))))) (.cons (.con (.str s20)) (.cons (.con (.str s19)) .nil)))))))))) (.cons (.ret (.op .add (.var 2) (.lst (.cons (.con (.int 0)) (.cons (.con (.int 7)) (.cons (.con (.bl true)) (.cons (.con (.bl false)) (.cons (.tup (.cons (.var 1) .nil)) (.cons (.lst (.cons (.var 1) .nil)) (.cons .dic .nil)))))))))) .nil))
def F_law_odd_values : Fn := runF 3 2 b_law_odd_values.ms
def b_law_odd_numbers : Ss := (.cons (.ret (.lst (.cons (.op .sub (.var 0) (.con (.int 1))) (.cons (.op .add (.var 1) (.con (.int 1))) (.cons (.con (.bl true)) (.cons (.con (.bl false)) (.cons (.con .non) (.cons (.bi .str (.cons (.var 0) .nil)) (.cons (.bi .str (.cons (.var 1) .nil)) (.cons (.tup (.cons (.var 0) .nil)) (.cons (.lst (.cons (.var 1) .nil)) (.cons (.op .pow (.con (.int 10)) (.con (.int 59))) (.cons (.op .sub (.neg (.var 1)) (.con (.int 2))) (.cons (.con (.str s7)) .nil)))))))))))))) .nil)
def F_law_odd_numbers : Fn := runF 2 2 b_law_odd_numbers.ms
def b_law_questions_right : Ss := (.cons (.par [1, 2] (.cons (.call F_law_key (.cons (.var 0) .nil) .nil) (.cons (.call F_law_key (.cons (.var 0) .nil) .nil) .nil))) (.cons (.asg 3 (.lst (.cons (.call F_is_question (.cons (.tup (.cons (.con (.str s4)) (.cons (.var 1) .nil))) .nil) .nil) (.cons (.call F_is_question (.cons (.tup (.cons (.con (.str s3)) (.cons (.var 1) (.cons (.var 2) .nil)))) .nil) .nil) (.cons (.call F_is_question (.cons (.tup (.cons (.con (.str s3)) (.cons (.var 2) (.cons (.var 1) .nil)))) .nil) .nil) .nil))))) (.cons (.asg 3 (.op .add (.var 3) (.lst (.cons (.call F_is_question .nil (.cons (.tup (.cons (.con (.str s2)) .nil)) .nil)) (.cons (.call F_is_question (.cons (.tup (.cons (.con (.str s3)) (.cons (.var 1) (.cons (.var 1) .nil)))) .nil) .nil) .nil))))) (.cons (.asg 4 (.lst (.cons (.tup (.cons (.con (.str s4)) .nil)) (.cons (.tup (.cons (.con (.str s4)) (.cons (.var 1) (.cons (.var 1) .nil)))) (.cons (.tup (.cons (.con (.str s25)) (.cons (.var 1) .nil))) (.cons (.tup (.cons (.con (.str s24)) (.cons (.var 1) .nil))) (.cons (.lst (.cons (.con (.str s4)) (.cons (.var 1) .nil))) (.cons (.tup (.cons (.con (.str s3)) (.cons (.var 1) .nil))) (.cons (.tup (.cons (.con (.str s3)) .nil)) (.cons (.con (.str s2)) .nil)))))))))) (.cons (.asg 4 (.op .add (.var 4) (.lst (.cons (.tup (.cons (.con (.str s3)) (.cons (.var 1) (.cons (.var 2) (.cons (.var 1) .nil))))) (.cons (.tup (.cons (.con (.str s2)) (.cons (.var 1) .nil))) (.cons (.tup (.cons (.con (.str s2)) (.cons (.con .non) .nil))) (.cons (.tup .nil) (.cons (.con .non) (.cons (.con (.str s4)) (.cons (.tup (.cons (.op .add (.var 1) (.con (.str s23))) .nil)) (.cons (.tup (.cons (.tup (.cons (.con (.str s2)) .nil)) .nil)) (.cons (.con (.int 0)) .nil)))))))))))) (.cons (.asg 4 (.op .add (.var 4) (.lst (.cons (.lst .nil) (.cons .dic (.cons (.lst (.cons (.con (.str s2)) .nil)) (.cons (.tup (.cons (.con .non) (.cons (.var 1) .nil))) (.cons (.tup (.cons (.con (.int 0)) (.cons (.var 1) .nil))) (.cons (.tup (.cons (.con (.str s7)) (.cons (.var 1) .nil))) (.cons (.tup (.cons (.con (.str s22)) .nil)) (.cons (.tup (.cons (.con (.str s4)) (.cons (.tup (.cons (.var 1) .nil)) .nil))) (.cons (.con (.bl true)) (.cons (.lst (.cons (.tup (.cons (.con (.str s2)) .nil)) .nil)) .nil))))))))))))) (.cons (.for (.seq (.call F_law_odd_keys (.cons (.var 0) (.cons (.var 1) .nil)) .nil)) (.nm 5) (.cons (.asg 4 (.op .add (.var 4) (.lst (.cons (.tup (.cons (.con (.str s4)) (.cons (.var 5) .nil))) (.cons (.tup (.cons (.con (.str s3)) (.cons (.var 5) (.cons (.var 2) .nil)))) (.cons (.tup (.cons (.con (.str s3)) (.cons (.var 2) (.cons (.var 5) .nil)))) (.cons (.tup (.cons (.var 5) (.cons (.var 1) .nil))) .nil))))))) .nil)) (.cons (.asg 6 (.lc (.seq (.var 4)) (.nm 5) [5] .no (.call F_is_question (.cons (.var 5) .nil) .nil))) (.cons (.ret (.and (.cmp .eq (.bi .repr (.cons (.var 3) .nil)) (.bi .repr (.cons (.op .mul (.lst (.cons (.con (.bl true)) .nil)) (.bi .len (.cons (.var 3) .nil))) .nil))) (.cmp .eq (.bi .repr (.cons (.var 6) .nil)) (.bi .repr (.cons (.op .mul (.lst (.cons (.con (.bl false)) .nil)) (.bi .len (.cons (.var 6) .nil))) .nil))))) .nil)))))))))
def F_law_questions_right : Fn := runF 7 1 b_law_questions_right.ms
def b_law_scans_right : Ss := (.cons (.asg 1 (.call F_law_pairs (.cons (.var 0) (.cons (.op .add (.con (.int 3)) (.call F_law_draw (.cons (.var 0) (.cons (.con (.int 4)) .nil)) .nil)) .nil)) .nil)) (.cons (.par [2, 3, 4] (.cons (.idx (.idx (.var 1) (.con (.int 0))) (.con (.int 0))) (.cons (.idx (.idx (.var 1) (.neg (.con (.int 1)))) (.con (.int 0))) (.cons (.call F_law_draw (.cons (.var 0) (.cons (.bi .len (.cons (.var 1) .nil)) .nil)) .nil) .nil)))) (.cons (.par [5, 6] (.cons (.tup (.cons (.con (.str s3)) (.cons (.var 2) (.cons (.var 3) .nil)))) (.cons (.call F_law_pairs (.cons (.var 0) (.cons (.con (.int 64)) .nil)) .nil) .nil))) (.cons (.asg 7 (.lst (.cons (.call F_is_answer (.cons (.var 5) (.cons (.var 1) .nil)) .nil) (.cons (.call F_is_answer (.cons (.var 5) (.cons (.sli (.var 1) .no (.so (.var 4))) .nil)) .nil) (.cons (.call F_is_answer (.cons (.var 5) (.cons (.sli (.var 1) (.so (.var 4)) .no) .nil)) .nil) (.cons (.call F_is_answer (.cons (.var 5) (.cons (.tup .nil) .nil)) .nil) .nil)))))) (.cons (.asg 7 (.op .add (.var 7) (.lst (.cons (.call F_is_answer (.cons (.tup (.cons (.con (.str s3)) (.cons (.var 3) (.cons (.var 2) .nil)))) (.cons (.tup .nil) .nil)) .nil) (.cons (.call F_is_answer (.cons (.tup (.cons (.con (.str s3)) (.cons (.con (.str s10)) (.cons (.con (.str s11)) .nil)))) (.cons (.var 6) .nil)) .nil) .nil))))) (.cons (.asg 7 (.op .add (.var 7) (.lst (.cons (.call F_is_answer .nil (.cons (.var 5) (.cons (.sli (.var 1) (.so (.var 4)) (.so (.op .add (.var 4) (.con (.int 1))))) .nil))) .nil)))) (.cons (.asg 8 (.lst (.cons (.bi .list (.cons (.var 1) .nil)) (.cons (.con .non) (.cons (.con (.int 0)) (.cons (.con (.str s7)) (.cons (.con (.bl true)) (.cons (.op .add (.var 1) (.tup (.cons (.con .non) .nil))) (.cons (.stp (.var 1) (.neg (.con (.int 1)))) (.cons (.op .add (.var 1) (.sli (.var 1) (.so (.neg (.con (.int 1)))) .no)) (.cons (.op .add (.sli (.var 1) .no (.so (.con (.int 1)))) (.var 1)) (.cons (.tup (.cons (.var 1) .nil)) (.cons .dic .nil))))))))))))) (.cons (.asg 8 (.op .add (.var 8) (.lst (.cons (.call F_law_swap (.cons (.var 1) (.cons (.var 4) (.cons (.bi .list (.cons (.idx (.var 1) (.var 4)) .nil)) .nil))) .nil) (.cons (.call F_law_swap (.cons (.var 1) (.cons (.var 4) (.cons (.op .add (.idx (.var 1) (.var 4)) (.tup (.cons (.con (.str s26)) .nil))) .nil))) .nil) (.cons (.call F_law_swap (.cons (.var 1) (.cons (.var 4) (.cons (.con .non) .nil))) .nil) .nil)))))) (.cons (.asg 8 (.op .add (.var 8) (.lst (.cons (.call F_law_swap (.cons (.var 1) (.cons (.var 4) (.cons (.sli (.idx (.var 1) (.var 4)) .no (.so (.con (.int 1)))) .nil))) .nil) (.cons (.call F_law_swap (.cons (.var 1) (.cons (.var 4) (.cons (.tup (.cons (.idx (.idx (.var 1) (.var 4)) (.con (.int 0))) (.cons (.con .non) .nil))) .nil))) .nil) .nil))))) (.cons (.for (.seq (.call F_law_odd_keys (.cons (.var 0) (.cons (.idx (.idx (.var 1) (.var 4)) (.con (.int 0))) .nil)) .nil)) (.nm 9) (.cons (.expr (.app 8 (.call F_law_swap (.cons (.var 1) (.cons (.var 4) (.cons (.tup (.cons (.var 9) (.cons (.idx (.idx (.var 1) (.var 4)) (.con (.int 1))) .nil))) .nil))) .nil))) .nil)) (.cons (.for (.seq (.call F_law_odd_values (.cons (.var 0) (.cons (.idx (.idx (.var 1) (.var 4)) (.con (.int 1))) .nil)) .nil)) (.nm 9) (.cons (.expr (.app 8 (.call F_law_swap (.cons (.var 1) (.cons (.var 4) (.cons (.tup (.cons (.idx (.idx (.var 1) (.var 4)) (.con (.int 0))) (.cons (.var 9) .nil))) .nil))) .nil))) .nil)) (.cons (.asg 10 (.lc (.seq (.var 8)) (.nm 9) [9] .no (.call F_is_answer (.cons (.var 5) (.cons (.var 9) .nil)) .nil))) (.cons (.asg 10 (.op .add (.var 10) (.lst (.cons (.call F_is_answer (.cons (.tup (.cons (.con (.str s3)) (.cons (.idx (.idx (.var 1) (.con (.int 1))) (.con (.int 0))) (.cons (.var 3) .nil)))) (.cons (.var 1) .nil)) .nil) (.cons (.call F_is_answer (.cons (.tup (.cons (.con (.str s3)) (.cons (.var 2) (.cons (.idx (.idx (.var 1) (.neg (.con (.int 2)))) (.con (.int 0))) .nil)))) (.cons (.var 1) .nil)) .nil) .nil))))) (.cons (.asg 10 (.op .add (.var 10) (.lst (.cons (.call F_is_answer (.cons (.tup (.cons (.con (.str s3)) (.cons (.var 3) (.cons (.var 2) .nil)))) (.cons (.var 1) .nil)) .nil) (.cons (.call F_is_answer (.cons (.tup (.cons (.con (.str s3)) (.cons (.var 3) (.cons (.var 2) .nil)))) (.cons (.sli (.var 1) (.so (.var 4)) (.so (.op .add (.var 4) (.con (.int 1))))) .nil)) .nil) .nil))))) (.cons (.asg 11 (.op .add (.sli (.var 6) .no (.so (.con (.int 64)))) (.tup (.cons (.tup (.cons (.op .add (.sli (.idx (.idx (.var 6) (.neg (.con (.int 1)))) (.con (.int 0))) .no (.so (.con (.int 6)))) (.con (.str s27))) (.cons (.con (.str s26)) .nil))) .nil)))) (.cons (.asg 10 (.op .add (.var 10) (.lst (.cons (.call F_is_answer (.cons (.tup (.cons (.con (.str s3)) (.cons (.con (.str s10)) (.cons (.con (.str s11)) .nil)))) (.cons (.var 11) .nil)) .nil) (.cons (.call F_is_answer (.cons (.lst (.cons (.con (.str s3)) (.cons (.var 2) (.cons (.var 3) .nil)))) (.cons (.var 1) .nil)) .nil) .nil))))) (.cons (.ret (.and (.cmp .eq (.bi .repr (.cons (.var 7) .nil)) (.bi .repr (.cons (.op .mul (.lst (.cons (.con (.bl true)) .nil)) (.bi .len (.cons (.var 7) .nil))) .nil))) (.cmp .eq (.bi .repr (.cons (.var 10) .nil)) (.bi .repr (.cons (.op .mul (.lst (.cons (.con (.bl false)) .nil)) (.bi .len (.cons (.var 10) .nil))) .nil))))) .nil)))))))))))))))))
def F_law_scans_right : Fn := runF 12 1 b_law_scans_right.ms
def b_law_answers_right : Ss := (.cons (.par [1, 2, 3] (.cons (.call F_law_key (.cons (.var 0) .nil) .nil) (.cons (.call F_law_value (.cons (.var 0) .nil) .nil) (.cons (.tup (.cons (.con (.str s2)) .nil)) .nil)))) (.cons (.asg 4 (.lst (.cons (.call F_is_answer (.cons (.tup (.cons (.con (.str s4)) (.cons (.var 1) .nil))) (.cons (.con .non) .nil)) .nil) (.cons (.call F_is_answer (.cons (.tup (.cons (.con (.str s4)) (.cons (.var 1) .nil))) (.cons (.var 2) .nil)) .nil) (.cons (.call F_is_answer (.cons (.tup (.cons (.con (.str s4)) (.cons (.var 1) .nil))) (.cons (.con (.str s30)) .nil)) .nil) .nil))))) (.cons (.asg 4 (.op .add (.var 4) (.lst (.cons (.call F_is_answer (.cons (.var 3) (.cons (.con (.int 0)) .nil)) .nil) (.cons (.call F_is_answer (.cons (.var 3) (.cons (.con (.int 64)) .nil)) .nil) (.cons (.call F_is_answer (.cons (.var 3) (.cons (.call F_law_draw (.cons (.var 0) (.cons (.con (.int 65)) .nil)) .nil) .nil)) .nil) .nil)))))) (.cons (.asg 5 (.lc (.seq (.call F_law_odd_values (.cons (.var 0) (.cons (.var 2) .nil)) .nil)) (.nm 6) [6] .no (.call F_is_answer (.cons (.tup (.cons (.con (.str s4)) (.cons (.var 1) .nil))) (.cons (.var 6) .nil)) .nil))) (.cons (.asg 5 (.op .add (.var 5) (.lc (.seq (.op .add (.call F_law_odd_numbers (.cons (.con (.int 0)) (.cons (.con (.int 64)) .nil)) .nil) (.lst (.cons (.var 2) (.cons (.tup .nil) .nil))))) (.nm 6) [6] .no (.call F_is_answer (.cons (.var 3) (.cons (.var 6) .nil)) .nil)))) (.cons (.asg 5 (.op .add (.var 5) (.lst (.cons (.call F_is_answer (.cons (.tup (.cons (.con (.str s4)) (.cons (.var 1) .nil))) (.cons (.tup .nil) .nil)) .nil) (.cons (.call F_is_answer (.cons (.tup (.cons (.con (.str s4)) (.cons (.var 1) .nil))) (.cons (.tup (.cons (.tup (.cons (.var 1) (.cons (.var 2) .nil))) .nil)) .nil)) .nil) (.cons (.call F_is_answer (.cons (.var 3) (.cons (.tup (.cons (.tup (.cons (.var 1) (.cons (.var 2) .nil))) .nil)) .nil)) .nil) .nil)))))) (.cons (.for (.seq (.tup (.cons (.con .non) (.cons (.con (.str s2)) (.cons (.tup (.cons (.con (.str s2)) (.cons (.con (.int 1)) .nil))) (.cons (.tup (.cons (.con (.str s4)) .nil)) (.cons (.lst (.cons (.con (.str s4)) (.cons (.var 1) .nil))) (.cons (.tup .nil) (.cons (.con (.int 0)) (.cons (.tup (.cons (.con (.str s4)) (.cons (.con (.str s29)) .nil))) (.cons (.tup (.cons (.con (.str s28)) (.cons (.var 1) .nil))) .nil))))))))))) (.nm 6) (.cons (.asg 5 (.op .add (.var 5) (.lst (.cons (.call F_is_answer (.cons (.var 6) (.cons (.con .non) .nil)) .nil) (.cons (.call F_is_answer (.cons (.var 6) (.cons (.con (.int 0)) .nil)) .nil) (.cons (.call F_is_answer (.cons (.var 6) (.cons (.var 2) .nil)) .nil) (.cons (.call F_is_answer (.cons (.var 6) (.cons (.tup .nil) .nil)) .nil) .nil))))))) .nil)) (.cons (.ret (.and (.cmp .eq (.bi .repr (.cons (.var 4) .nil)) (.bi .repr (.cons (.op .mul (.lst (.cons (.con (.bl true)) .nil)) (.bi .len (.cons (.var 4) .nil))) .nil))) (.cmp .eq (.bi .repr (.cons (.var 5) .nil)) (.bi .repr (.cons (.op .mul (.lst (.cons (.con (.bl false)) .nil)) (.bi .len (.cons (.var 5) .nil))) .nil))))) .nil))))))))
def F_law_answers_right : Fn := runF 7 1 b_law_answers_right.ms
def b_law_notes_right : Ss := (.cons (.asgT (.tup (.cons (.nm 1) (.cons (.nm 2) .nil))) (.call F_law_asked (.cons (.var 0) (.cons (.con (.int 4)) .nil)) .nil)) (.cons (.asg 3 (.lc (.seq (.tup (.cons (.con (.int 0)) (.cons (.con (.int 999999)) (.cons (.call F_law_draw (.cons (.var 0) (.cons (.con (.int 1000000)) .nil)) .nil) .nil))))) (.nm 4) [4] .no (.call F_is_note (.cons (.tup (.cons (.var 4) (.cons (.var 1) (.cons (.var 2) .nil)))) .nil) .nil))) (.cons (.expr (.app 3 (.call F_is_note .nil (.cons (.tup (.cons (.con (.int 7)) (.cons (.var 1) (.cons (.var 2) .nil)))) .nil)))) (.cons (.asg 5 (.lc (.seq (.call F_law_odd_numbers (.cons (.con (.int 0)) (.cons (.con (.int 999999)) .nil)) .nil)) (.nm 6) [6] .no (.tup (.cons (.var 6) (.cons (.var 1) (.cons (.var 2) .nil)))))) (.cons (.asg 5 (.op .add (.var 5) (.lst (.cons (.lst (.cons (.con (.int 3)) (.cons (.var 1) (.cons (.var 2) .nil)))) (.cons (.tup (.cons (.con (.int 3)) (.cons (.var 1) .nil))) (.cons (.tup (.cons (.con (.int 3)) (.cons (.var 1) (.cons (.var 2) (.cons (.con .non) .nil))))) (.cons (.tup (.cons (.var 1) (.cons (.con (.int 3)) (.cons (.var 2) .nil)))) (.cons (.con .non) (.cons (.tup .nil) (.cons (.tup (.cons (.con (.int 3)) .nil)) (.cons (.con (.int 3)) (.cons (.con (.str s7)) (.cons .dic .nil))))))))))))) (.cons (.asg 5 (.op .add (.var 5) (.lst (.cons (.tup (.cons (.con (.int 3)) (.cons (.bi .list (.cons (.var 1) .nil)) (.cons (.var 2) .nil)))) (.cons (.tup (.cons (.con (.int 3)) (.cons (.op .add (.var 1) (.tup (.cons (.con (.str s10)) .nil))) (.cons (.var 2) .nil)))) (.cons (.tup (.cons (.con (.int 3)) (.cons (.var 2) (.cons (.var 1) .nil)))) (.cons (.tup (.cons (.con (.int 3)) (.cons (.var 1) (.cons (.lst (.cons (.var 2) .nil)) .nil)))) .nil))))))) (.cons (.asg 5 (.op .add (.var 5) (.lst (.cons (.tup (.cons (.con (.int 3)) (.cons (.var 1) (.cons (.con (.bl true)) .nil)))) (.cons (.tup (.cons (.con (.int 3)) (.cons (.con .non) (.cons (.con .non) .nil)))) (.cons (.tup (.cons (.con (.int 3)) (.cons (.tup (.cons (.con (.str s4)) (.cons (.con (.str s29)) .nil))) (.cons (.con .non) .nil)))) (.cons (.tup (.cons (.con (.int 3)) (.cons (.var 1) (.cons (.neg (.con (.int 1))) .nil)))) (.cons (.tup (.cons (.tup (.cons (.con (.int 3)) (.cons (.var 1) (.cons (.var 2) .nil)))) .nil)) .nil)))))))) (.cons (.asg 5 (.op .add (.var 5) (.lst (.cons (.tup (.cons (.con (.int 3)) (.cons (.var 1) (.cons (.con (.str s15)) .nil)))) (.cons (.tup (.cons (.con (.int 3)) (.cons (.var 1) (.cons (.tup (.cons (.con .non) .nil)) .nil)))) (.cons (.tup (.cons (.con (.int 3)) (.cons (.var 1) (.cons (.con (.int 65)) .nil)))) .nil)))))) (.cons (.asg 7 (.lc (.seq (.var 5)) (.nm 6) [6] .no (.call F_is_note (.cons (.var 6) .nil) .nil))) (.cons (.ret (.and (.cmp .eq (.bi .repr (.cons (.var 3) .nil)) (.bi .repr (.cons (.op .mul (.lst (.cons (.con (.bl true)) .nil)) (.bi .len (.cons (.var 3) .nil))) .nil))) (.cmp .eq (.bi .repr (.cons (.var 7) .nil)) (.bi .repr (.cons (.op .mul (.lst (.cons (.con (.bl false)) .nil)) (.bi .len (.cons (.var 7) .nil))) .nil))))) .nil))))))))))
def F_law_notes_right : Fn := runF 8 1 b_law_notes_right.ms
def b_law_odd_runs : Ss := (.cons (.par [2, 3] (.cons (.idx (.var 1) (.neg (.con (.int 1)))) (.cons (.sli (.var 1) .no (.so (.neg (.con (.int 1))))) .nil))) (.cons (.asg 4 (.lst (.cons (.bi .list (.cons (.var 1) .nil)) (.cons (.op .add (.var 1) (.tup (.cons (.con .non) .nil))) (.cons (.var 3) (.cons (.op .add (.tup (.cons (.up (.idx (.var 1) (.con (.int 0)))) .nil)) (.sli (.var 1) (.so (.con (.int 1))) .no)) (.cons (.op .add (.tup (.cons (.op .add (.idx (.var 1) (.con (.int 0))) (.con (.str s23))) .nil)) (.sli (.var 1) (.so (.con (.int 1))) .no)) (.cons (.sli (.var 1) (.so (.con (.int 1))) .no) (.cons (.con .non) (.cons (.tup .nil) .nil)))))))))) (.cons (.asg 4 (.op .add (.var 4) (.lst (.cons (.op .add (.var 3) (.tup (.cons (.bi .list (.cons (.var 2) .nil)) .nil))) (.cons (.op .add (.var 3) (.tup (.cons (.con .non) .nil))) (.cons (.op .add (.var 3) (.tup (.cons .dic .nil))) (.cons (.op .add (.var 3) (.tup (.cons (.tup (.cons (.var 2) .nil)) .nil))) (.cons (.idx (.var 1) (.con (.int 0))) (.cons (.op .add (.tup (.cons (.con .non) .nil)) (.sli (.var 1) (.so (.con (.int 1))) .no)) .nil))))))))) (.cons (.asg 5 (.bi .int (.cons (.cmp .eq (.idx (.var 1) (.con (.int 0))) (.con (.str s6))) .nil))) (.cons (.for (.seq (.call F_law_odd_numbers (.cons (.var 5) (.cons (.con (.int 999999)) .nil)) .nil)) (.nm 6) (.cons (.expr (.app 4 (.op .add (.op .add (.sli (.var 1) .no (.so (.con (.int 1)))) (.tup (.cons (.var 6) .nil))) (.sli (.var 1) (.so (.con (.int 2))) .no)))) (.cons (.ite (.cmp .eq (.idx (.var 1) (.con (.int 0))) (.con (.str s5))) (.cons (.expr (.app 4 (.op .add (.op .add (.sli (.var 1) .no (.so (.con (.int 2)))) (.tup (.cons (.var 6) .nil))) (.sli (.var 1) (.so (.con (.int 3))) .no)))) .nil) .nil) .nil))) (.cons (.ite (.cmp .eq (.idx (.var 1) (.con (.int 0))) (.con (.str s5))) (.cons (.asg 4 (.op .add (.var 4) (.lst (.cons (.op .add (.tup (.cons (.con (.str s6)) .nil)) (.sli (.var 1) (.so (.con (.int 1))) .no)) (.cons (.tup (.cons (.con (.str s5)) (.cons (.idx (.var 1) (.con (.int 1))) (.cons (.var 2) .nil)))) .nil))))) .nil) (.cons (.asg 4 (.op .add (.var 4) (.lst (.cons (.op .add (.tup (.cons (.con (.str s5)) .nil)) (.sli (.var 1) (.so (.con (.int 1))) .no)) (.cons (.tup (.cons (.con (.str s6)) (.cons (.idx (.var 1) (.con (.int 1))) (.cons (.idx (.var 1) (.con (.int 1))) (.cons (.var 2) .nil))))) (.cons (.tup (.cons (.con (.str s6)) (.cons (.var 2) (.cons (.idx (.var 1) (.con (.int 1))) .nil)))) .nil)))))) .nil)) (.cons (.asg 7 (.tup (.cons (.tup (.cons (.con (.int 999999)) (.cons (.tup (.cons (.con (.str s2)) .nil)) (.cons (.con (.int 0)) .nil)))) (.cons (.tup (.cons (.con (.int 999998)) (.cons (.tup (.cons (.con (.str s2)) .nil)) (.cons (.con (.int 0)) .nil)))) (.cons (.tup (.cons (.con (.int 999999)) (.cons (.tup (.cons (.con (.str s2)) .nil)) (.cons (.con (.int 0)) .nil)))) .nil))))) (.cons (.asg 4 (.op .add (.var 4) (.lst (.cons (.op .add (.var 3) (.tup (.cons (.op .add (.var 2) (.var 7)) .nil))) (.cons (.op .add (.var 3) (.tup (.cons (.op .add (.var 2) (.sli (.var 7) .no (.so (.con (.int 2))))) .nil))) (.cons (.op .add (.var 3) (.tup (.cons (.op .add (.tup (.cons (.tup (.cons (.con (.int 1)) (.cons (.tup (.cons (.con (.str s2)) .nil)) (.cons (.con (.int 0)) .nil)))) .nil)) (.tup (.cons (.tup (.cons (.con (.int 0)) (.cons (.tup (.cons (.con (.str s2)) .nil)) (.cons (.con (.int 0)) .nil)))) .nil))) .nil))) .nil)))))) (.cons (.asg 8 (.call F_law_draw (.cons (.var 0) (.cons (.op .add (.bi .len (.cons (.var 2) .nil)) (.con (.int 1))) .nil)) .nil)) (.cons (.for (.seq (.tup (.cons (.con .non) (.cons (.tup .nil) (.cons (.bi .list (.cons (.idx (.var 7) (.con (.int 0))) .nil)) (.cons (.tup (.cons (.con (.int 999999)) (.cons (.tup (.cons (.con (.str s2)) .nil)) (.cons (.con (.int 65)) .nil)))) (.cons (.tup (.cons (.con (.int 999999)) (.cons (.tup (.cons (.con (.str s2)) .nil)) (.cons (.con (.bl true)) .nil)))) (.cons (.tup (.cons (.con (.int 1000000)) (.cons (.tup (.cons (.con (.str s2)) .nil)) (.cons (.con (.int 0)) .nil)))) .nil)))))))) (.nm 6) (.cons (.expr (.app 4 (.op .add (.var 3) (.tup (.cons (.op .add (.op .add (.sli (.var 2) .no (.so (.var 8))) (.tup (.cons (.var 6) .nil))) (.sli (.var 2) (.so (.var 8)) .no)) .nil))))) .nil)) (.cons (.retV 4) .nil)))))))))))
def F_law_odd_runs : Fn := runF 9 2 b_law_odd_runs.ms
def b_law_runs_right : Ss := (.cons (.par [1, 2] (.cons (.lst .nil) (.cons (.lst .nil) .nil))) (.cons (.for (.seq (.tup (.cons (.con .non) (.cons (.con (.int 1)) (.cons (.con (.int 999999)) (.cons (.op .add (.con (.int 1)) (.call F_law_draw (.cons (.var 0) (.cons (.con (.int 999999)) .nil)) .nil)) .nil)))))) (.nm 3) (.cons (.asg 4 (.call F_law_run (.cons (.var 0) (.cons (.var 3) (.cons (.call F_law_draw (.cons (.var 0) (.cons (.con (.int 5)) .nil)) .nil) .nil))) .nil)) (.cons (.expr (.app 1 (.call F_is_run (.cons (.var 4) .nil) .nil))) (.cons (.asg 2 (.op .add (.var 2) (.lc (.seq (.call F_law_odd_runs (.cons (.var 0) (.cons (.var 4) .nil)) .nil)) (.nm 5) [5] .no (.call F_is_run (.cons (.var 5) .nil) .nil)))) .nil)))) (.cons (.asg 6 (.bi .tuple (.cons (.lc (.rng1 (.cons (.con (.int 61)) .nil)) (.nm 7) [7] .no (.tup (.cons (.con (.int 4)) (.cons (.tup (.cons (.con (.str s2)) .nil)) (.cons (.var 7) .nil))))) .nil))) (.cons (.asg 1 (.op .add (.var 1) (.lst (.cons (.call F_is_run (.cons (.tup (.cons (.con (.str s5)) (.cons (.con (.int 5)) (.cons (.con (.int 3)) (.cons (.var 6) .nil))))) .nil) .nil) (.cons (.call F_is_run (.cons (.tup (.cons (.con (.str s6)) (.cons (.con (.int 7)) (.cons (.var 6) .nil)))) .nil) .nil) (.cons (.call F_is_run (.cons (.tup (.cons (.con (.str s5)) (.cons (.con (.int 0)) (.cons (.con (.int 999999)) (.cons (.tup .nil) .nil))))) .nil) .nil) .nil)))))) (.cons (.asg 1 (.op .add (.var 1) (.lst (.cons (.call F_is_run (.cons (.tup (.cons (.con (.str s5)) (.cons (.con (.int 999999)) (.cons (.con (.int 0)) (.cons (.tup .nil) .nil))))) .nil) .nil) (.cons (.call F_is_run .nil (.cons (.tup (.cons (.con (.str s5)) (.cons (.con (.int 0)) (.cons (.con (.int 0)) (.cons (.sli (.var 6) .no (.so (.con (.int 1)))) .nil))))) .nil)) .nil))))) (.cons (.ret (.and (.cmp .eq (.bi .repr (.cons (.var 1) .nil)) (.bi .repr (.cons (.op .mul (.lst (.cons (.con (.bl true)) .nil)) (.bi .len (.cons (.var 1) .nil))) .nil))) (.cmp .eq (.bi .repr (.cons (.var 2) .nil)) (.bi .repr (.cons (.op .mul (.lst (.cons (.con (.bl false)) .nil)) (.bi .len (.cons (.var 2) .nil))) .nil))))) .nil))))))
def F_law_runs_right : Fn := runF 8 1 b_law_runs_right.ms
def b_law_odd_accounts : Ss := (.cons (.asg 2 (.call F_law_draw (.cons (.var 0) (.cons (.bi .len (.cons (.var 1) .nil)) .nil)) .nil)) (.cons (.asgT (.tup (.cons (.nm 3) (.cons (.nm 4) .nil))) (.idx (.var 1) (.var 2))) (.cons (.asg 5 (.call F_law_draw (.cons (.var 0) (.cons (.bi .len (.cons (.var 4) .nil)) .nil)) .nil)) (.cons (.asg 6 (.tup (.cons (.con (.str s6)) (.cons (.op .sub (.con (.int 1000000)) (.con (.int 1))) (.cons (.tup .nil) .nil))))) (.cons (.asg 7 (.lst (.cons (.bi .list (.cons (.var 1) .nil)) (.cons (.con .non) (.cons (.con (.int 5)) (.cons (.con (.str s7)) (.cons .dic (.cons (.idx (.var 1) (.var 2)) (.cons (.tup (.cons (.var 1) .nil)) (.cons (.tup (.cons (.var 3) .nil)) (.cons (.tup (.cons (.var 4) .nil)) (.cons (.op .add (.op .add (.sli (.var 1) .no (.so (.var 2))) (.sli (.idx (.var 1) (.var 2)) .no (.so (.con (.int 1))))) (.sli (.var 1) (.so (.op .add (.var 2) (.con (.int 1)))) .no)) .nil)))))))))))) (.cons (.for (.seq (.tup (.cons (.bi .list (.cons (.idx (.var 1) (.var 2)) .nil)) (.cons (.op .add (.idx (.var 1) (.var 2)) (.tup (.cons (.con .non) .nil))) (.cons (.sli (.idx (.var 1) (.var 2)) .no (.so (.con (.int 1)))) (.cons (.tup (.cons (.var 3) (.cons (.bi .list (.cons (.var 4) .nil)) .nil))) (.cons (.tup (.cons (.var 3) (.cons (.tup .nil) .nil))) (.cons (.con .non) (.cons (.tup .nil) (.cons (.var 3) (.cons (.tup (.cons (.var 4) (.cons (.var 3) .nil))) .nil))))))))))) (.nm 8) (.cons (.expr (.app 7 (.call F_law_swap (.cons (.var 1) (.cons (.var 2) (.cons (.var 8) .nil))) .nil))) .nil)) (.cons (.for (.seq (.call F_law_odd_keys (.cons (.var 0) (.cons (.var 3) .nil)) .nil)) (.nm 8) (.cons (.expr (.app 7 (.call F_law_swap (.cons (.var 1) (.cons (.var 2) (.cons (.tup (.cons (.var 8) (.cons (.var 4) .nil))) .nil))) .nil))) .nil)) (.cons (.for (.seq (.stp (.call F_law_odd_runs (.cons (.var 0) (.cons (.idx (.var 4) (.var 5)) .nil)) .nil) (.op .add (.con (.int 1)) (.call F_law_draw (.cons (.var 0) (.cons (.con (.int 3)) .nil)) .nil)))) (.nm 8) (.cons (.expr (.app 7 (.call F_law_swap (.cons (.var 1) (.cons (.var 2) (.cons (.tup (.cons (.var 3) (.cons (.call F_law_swap (.cons (.var 4) (.cons (.var 5) (.cons (.var 8) .nil))) .nil) .nil))) .nil))) .nil))) .nil)) (.cons (.ite (.cmp .lt (.bi .len (.cons (.var 1) .nil)) (.con (.int 6))) (.cons (.expr (.app 7 (.op .add (.var 1) (.tup (.cons (.tup (.cons (.var 3) (.cons (.tup (.cons (.var 6) .nil)) .nil))) .nil))))) (.cons (.expr (.app 7 (.op .add (.tup (.cons (.tup (.cons (.var 3) (.cons (.tup (.cons (.var 6) .nil)) .nil))) .nil)) (.var 1)))) (.cons (.ite (.cmp .eq (.idx (.idx (.var 4) (.var 5)) (.con (.int 0))) (.con (.str s6))) (.cons (.expr (.app 7 (.op .add (.var 1) (.tup (.cons (.tup (.cons (.con (.str s11)) (.cons (.tup (.cons (.tup (.cons (.con (.str s6)) (.cons (.idx (.idx (.var 4) (.var 5)) (.con (.int 1))) (.cons (.tup .nil) .nil)))) .nil)) .nil))) .nil))))) .nil) .nil) .nil))) .nil) (.cons (.ite (.and (.cmp .eq (.idx (.idx (.var 4) (.var 5)) (.con (.int 0))) (.con (.str s6))) (.cmp .lt (.bi .len (.cons (.var 4) .nil)) (.con (.int 12)))) (.cons (.expr (.app 7 (.call F_law_swap (.cons (.var 1) (.cons (.var 2) (.cons (.tup (.cons (.var 3) (.cons (.op .add (.var 4) (.tup (.cons (.tup (.cons (.con (.str s6)) (.cons (.idx (.idx (.var 4) (.var 5)) (.con (.int 1))) (.cons (.tup .nil) .nil)))) .nil))) .nil))) .nil))) .nil))) .nil) .nil) (.cons (.retV 7) .nil)))))))))))
def F_law_odd_accounts : Fn := runF 9 2 b_law_odd_accounts.ms
def b_law_bounds_right : Ss := (.cons (.par [1, 2] (.cons (.call F_law_full (.cons (.var 0) .nil) .nil) (.cons (.call F_law_draw (.cons (.var 0) (.cons (.con (.int 6)) .nil)) .nil) .nil))) (.cons (.asgT (.tup (.cons (.nm 3) (.cons (.nm 4) .nil))) (.idx (.var 1) (.var 2))) (.cons (.asg 5 (.lc (.enum (.cons (.var 4) .nil)) (.tup (.cons (.nm 6) (.cons (.nm 7) .nil))) [6, 7] (.so (.cmp .eq (.idx (.var 7) (.con (.int 0))) (.con (.str s6)))) (.var 6))) (.cons (.asg 6 (.call F_law_pick (.cons (.var 0) (.cons (.var 5) .nil)) .nil)) (.cons (.asg 8 (.lst (.cons (.call F_are_accounts (.cons (.var 1) .nil) .nil) (.cons (.call F_are_accounts (.cons (.sli (.var 1) .no (.so (.var 2))) .nil) .nil) (.cons (.call F_are_accounts (.cons (.sli (.var 1) (.so (.var 2)) .no) .nil) .nil) (.cons (.call F_are_accounts .nil (.cons (.stp (.var 1) (.neg (.con (.int 1)))) .nil)) .nil)))))) (.cons (.asg 8 (.op .add (.var 8) (.lst (.cons (.call F_are_accounts (.cons (.tup .nil) .nil) .nil) (.cons (.call F_are_accounts (.cons (.call F_law_swap (.cons (.var 1) (.cons (.var 2) (.cons (.tup (.cons (.var 3) (.cons (.sli (.var 4) .no (.so (.con (.int 1)))) .nil))) .nil))) .nil) .nil) .nil) .nil))))) (.cons (.asg 9 (.op .add (.sli (.idx (.var 4) (.var 6)) .no (.so (.neg (.con (.int 1))))) (.tup (.cons (.op .add (.idx (.idx (.var 4) (.var 6)) (.neg (.con (.int 1)))) (.tup (.cons (.tup (.cons (.con (.int 999999)) (.cons (.tup (.cons (.con (.str s2)) .nil)) (.cons (.con (.int 0)) .nil)))) .nil))) .nil)))) (.cons (.asg 10 (.lst (.cons (.call F_law_swap (.cons (.var 1) (.cons (.var 2) (.cons (.tup (.cons (.var 3) (.cons (.call F_law_swap (.cons (.var 4) (.cons (.var 6) (.cons (.var 9) .nil))) .nil) .nil))) .nil))) .nil) .nil))) (.cons (.expr (.app 10 (.call F_law_swap (.cons (.var 1) (.cons (.var 2) (.cons (.tup (.cons (.var 3) (.cons (.call F_law_swap (.cons (.var 4) (.cons (.var 6) (.cons (.tup (.cons (.con (.str s5)) (.cons (.con (.int 0)) (.cons (.con (.int 0)) (.cons (.idx (.idx (.var 4) (.var 6)) (.neg (.con (.int 1)))) .nil))))) .nil))) .nil) .nil))) .nil))) .nil))) (.cons (.expr (.app 10 (.call F_law_swap (.cons (.var 1) (.cons (.var 2) (.cons (.tup (.cons (.var 3) (.cons (.op .add (.var 4) (.sli (.var 4) (.so (.var 6)) (.so (.op .add (.var 6) (.con (.int 1)))))) .nil))) .nil))) .nil))) (.cons (.expr (.app 10 (.call F_law_swap (.cons (.sli (.var 1) .no (.so (.con (.int 5)))) (.cons (.op .fdiv (.var 2) (.con (.int 2))) (.cons (.tup (.cons (.idx (.idx (.var 1) (.op .fdiv (.var 2) (.con (.int 2)))) (.con (.int 0))) (.cons (.op .add (.idx (.idx (.var 1) (.op .fdiv (.var 2) (.con (.int 2)))) (.con (.int 1))) (.sli (.idx (.idx (.var 1) (.con (.int 5))) (.con (.int 1))) (.so (.var 6)) (.so (.op .add (.var 6) (.con (.int 1)))))) .nil))) .nil))) .nil))) (.cons (.expr (.app 10 (.op .add (.var 1) (.tup (.cons (.tup (.cons (.con (.str s11)) (.cons (.tup (.cons (.tup (.cons (.con (.str s6)) (.cons (.op .add (.con (.int 1)) (.call F_law_draw (.cons (.var 0) (.cons (.con (.int 9)) .nil)) .nil)) (.cons (.tup .nil) .nil)))) .nil)) .nil))) .nil))))) (.cons (.expr (.app 10 (.op .add (.bi .tuple (.cons (.lc (.seq (.var 1)) (.nm 11) [11] .no (.tup (.cons (.idx (.var 11) (.con (.int 0))) (.cons (.sli (.idx (.var 11) (.con (.int 1))) .no (.so (.con (.int 1)))) .nil)))) .nil)) (.tup (.cons (.tup (.cons (.con (.str s11)) (.cons (.sli (.idx (.idx (.var 1) (.con (.int 0))) (.con (.int 1))) (.so (.con (.int 1))) (.so (.con (.int 2)))) .nil))) .nil))))) (.cons (.asg 12 (.lc (.seq (.var 10)) (.nm 13) [13] .no (.call F_are_accounts (.cons (.var 13) .nil) .nil))) (.cons (.ret (.and (.cmp .eq (.bi .repr (.cons (.var 8) .nil)) (.bi .repr (.cons (.op .mul (.lst (.cons (.con (.bl true)) .nil)) (.bi .len (.cons (.var 8) .nil))) .nil))) (.cmp .eq (.bi .repr (.cons (.var 12) .nil)) (.bi .repr (.cons (.op .mul (.lst (.cons (.con (.bl false)) .nil)) (.bi .len (.cons (.var 12) .nil))) .nil))))) .nil)))))))))))))))
def F_law_bounds_right : Fn := runF 14 1 b_law_bounds_right.ms
def b_law_accounts_right : Ss := (.cons (.asg 1 (.call F_law_accounts (.cons (.var 0) (.cons (.con (.int 1)) .nil)) .nil)) (.cons (.asg 2 (.lc (.seq (.call F_law_odd_accounts (.cons (.var 0) (.cons (.var 1) .nil)) .nil)) (.nm 3) [3] .no (.call F_are_accounts (.cons (.var 3) .nil) .nil))) (.cons (.ret (.and (.cmp .is (.call F_are_accounts (.cons (.var 1) .nil) .nil) (.con (.bl true))) (.cmp .eq (.bi .repr (.cons (.var 2) .nil)) (.bi .repr (.cons (.op .mul (.lst (.cons (.con (.bl false)) .nil)) (.bi .len (.cons (.var 2) .nil))) .nil))))) .nil)))
def F_law_accounts_right : Fn := runF 4 1 b_law_accounts_right.ms
def b_law : Ss := (.cons (.asg 1 (.call F_law_pen (.cons (.var 0) .nil) .nil)) (.cons (.ite (.or (.not (.call F_law_accounts_right (.cons (.var 1) .nil) .nil)) (.or (.not (.call F_law_questions_right (.cons (.var 1) .nil) .nil)) (.not (.call F_law_scans_right (.cons (.var 1) .nil) .nil)))) (.cons (.ret (.con (.bl false))) .nil) .nil) (.cons (.ite (.or (.not (.call F_law_answers_right (.cons (.var 1) .nil) .nil)) (.or (.not (.call F_law_notes_right (.cons (.var 1) .nil) .nil)) (.not (.call F_law_runs_right (.cons (.var 1) .nil) .nil)))) (.cons (.ret (.con (.bl false))) .nil) .nil) (.cons (.ret (.and (.call F_law_bounds_right (.cons (.var 1) .nil) .nil) (.call F_law_accounts_right (.cons (.var 1) .nil) .nil))) .nil))))
def F_law : Fn := runF 2 1 b_law.ms
end Lwk11
set_option Elab.async false
set_option linter.all false
set_option maxRecDepth 100000
set_option maxHeartbeats 2000000
namespace Lwk11
open PySem L2 Mi

def isInt : D → Bool
  | .int _ => true
  | _ => false

mutual
def tame : D → Bool
  | .frz _ => false
  | .ref _ => false
  | .str s => decide (s.length ≤ 1000)
  | .lst ds => decide (ds.length ≤ 1000) && tames ds
  | .tup ds => decide (ds.length ≤ 1000) && tames ds
  | _ => true
def tames : List D → Bool
  | [] => true
  | d :: ds => tame d && tames ds
end
theorem tames_iff : ∀ {ds : List D}, tames ds = true ↔ ∀ d ∈ ds, tame d = true
  | [] => by simp [tames]
  | d :: ds => by simp [tames, tames_iff]
@[simp] theorem tame_n : tame .non = true := by simp [tame]
@[simp] theorem tame_b {b : Bool} : tame (.bl b) = true := by simp [tame]
@[simp] theorem tame_i {b : Int} : tame (.int b) = true := by simp [tame]
@[simp] theorem tame_d {b : List (D × D)} : tame (.dct b) = true := by simp [tame]
theorem tame_s {s : List Nat} (h : s.length ≤ 1000) : tame (.str s) = true := by simp [tame, h]
theorem tame_l {b : List D} : tame (.lst b) = (decide (b.length ≤ 1000) && tames b) := by simp [tame]
theorem tame_t {b : List D} : tame (.tup b) = (decide (b.length ≤ 1000) && tames b) := by simp [tame]
@[simp] theorem tames_n : tames [] = true := by simp [tames]
@[simp] theorem tames_c {d : D} {ds : List D} : tames (d :: ds) = (tame d && tames ds) := by simp [tames]
theorem tames_app : ∀ {as bs : List D}, tames (as ++ bs) = (tames as && tames bs)
  | [], bs => by simp
  | a :: as, bs => by simp [tames_app (as := as), Bool.and_assoc]
theorem str_le {s : List Nat} (h : tame (.str s) = true) : s.length ≤ 1000000 := by
  simp [tame] at h
  omega
theorem tup_le {s : List D} (h : tame (.tup s) = true) : s.length ≤ 1000000 := by
  simp [tame] at h
  omega
theorem tup_in {s : List D} {d : D} (h : tame (.tup s) = true) (hd : d ∈ s) : tame d = true := by
  simp [tame] at h
  exact tames_iff.mp h.2 d hd
theorem f_is_integer {d : D} (h : tame d = true) : F_is_integer [.v d] = some (.ok (.dat (.bl (isInt d))) [.v d]) := by
  refine eq_fok (fok_run rfl rfl ?_)
  cases d with
  | frz _ => cases h
  | ref _ => cases h
  | _ => simp [b_is_integer, isInt]
@[simp] theorem k_is_integer {d : D} {p : Fr → List Sl → Prop} (h : tame d = true) : Fok F_is_integer [.v d] p ↔ p (.dat (.bl (isInt d))) [.v d] := fok_eq (f_is_integer h)
def isBelow (d : D) (n : Int) : Bool := match d with
  | .int i => decide (0 ≤ i ∧ i < n)
  | _ => false
@[simp] theorem k_is_below {d : D} {n : Int} {p : Fr → List Sl → Prop} (h : tame d = true) : Fok F_is_below [.v d, .v (.int n)] p ↔ p (.dat (.bl (isBelow d n))) [.v d, .v (.int n)] := by
  refine fok_eq (eq_fok (fok_run rfl rfl ?_))
  cases d with
  | frz _ => cases h
  | ref _ => cases h
  | int i => by_cases h1 : 0 ≤ i <;> by_cases h2 : i < n <;> simp [b_is_below, isInt, isBelow, h1, h2]
  | _ => simp [b_is_below, isInt, isBelow, h]
def lim : Nat := 1000000
/-- the state of the draws -/
structure PenOk (n : Nat) (pen : List D) : Prop where
  ex : ∃ (cs : List Int) (at_ z : Int), pen = [.lst (cs.map .int), .int at_, .int z] ∧ 0 ≤ at_ ∧ at_ ≤ n ∧ 0 ≤ z ∧ cs.length ≤ 63
theorem PenOk.mono {n m : Nat} {pen : List D} (h : PenOk n pen) (hm : n ≤ m) : PenOk m pen := by
  obtain ⟨cs, a, z, h1, h2, h3, h4⟩ := h
  exact ⟨cs, a, z, h1, h2, by omega, h4⟩
theorem fmod_in {a b : Int} (h : 0 < b) : 0 ≤ a.fmod b ∧ a.fmod b < b := ⟨Int.fmod_nonneg_of_pos a h, Int.fmod_lt_of_pos a h⟩
theorem fdiv_nn {a b : Int} (ha : 0 ≤ a) (h : 0 < b) : 0 ≤ a.fdiv b := Int.fdiv_nonneg ha (by omega)
theorem at_cell {cs : List Int} {i : Int} (h0 : 0 ≤ i) (h1 : i < cs.length) : ∃ c, atI (cs.map D.int) i = some (.int c) := by
  have hi : i.toNat < cs.length := by omega
  refine ⟨cs[i.toNat], ?_⟩
  simp only [atI, ixN, List.length_map]
  rw [if_pos h0, if_pos (by omega)]
  simp [hi]
theorem mixed_in {a b : Int} (n : Int) (hb : 0 < b) (h : b ≤ 2147483648) : 0 ≤ n.fmod b ∧ n.fmod b < 2147483648 := by
  obtain ⟨h1, h2⟩ := fmod_in (a := n) hb
  exact ⟨h1, by omega⟩
theorem prod_in {x y : Int} (h1 : 0 ≤ x) (h2 : x < 2147483648) (h3 : 0 ≤ y) (h4 : y < 4294967296) : 0 ≤ x * y ∧ x * y ≤ 2147483648 * y := by
  refine ⟨Int.mul_nonneg h1 h3, Int.mul_le_mul_of_nonneg_right (by omega) h3⟩
theorem sq_in {x : Int} (h1 : 0 ≤ x) (h2 : x ≤ 1000000) : 0 ≤ 36293 * x * x ∧ 36293 * x * x ≤ 36293000000 * x := by
  refine ⟨Int.mul_nonneg (by omega) h1, Int.mul_le_mul_of_nonneg_right (by omega) h1⟩
section
variable {α : Type} {a b c : α}
@[simp] theorem at3_0 : atI [a, b, c] 0 = some a := rfl
@[simp] theorem at3_1 : atI [a, b, c] 1 = some b := rfl
@[simp] theorem at3_2 : atI [a, b, c] 2 = some c := rfl
@[simp] theorem ix3_0 : ixN 3 0 = some 0 := rfl
@[simp] theorem ix3_1 : ixN 3 1 = some 1 := rfl
@[simp] theorem ix3_2 : ixN 3 2 = some 2 := rfl
end
theorem t_draw {n : Nat} {pen : List D} {m : Int} {p : Fr → List Sl → Prop} (hp : PenOk n pen) (hn : n + 1 ≤ lim) (h1 : 1 ≤ m) (h2 : m < 1073741824) (k : ∀ pen' r, PenOk (n + 1) pen' → 0 ≤ r → r < m → p (.dat (.int r)) [.own true (.lst pen'), .v (.int m)]) :
    Fok F_law_draw [.own true (.lst pen), .v (.int m)] p := by
  obtain ⟨cs, at_, z, rfl, ha, han, hz, hc⟩ := hp
  have hm0 : m ≠ 0 := by omega
  have hmn : m.natAbs < 1073741824 := by omega
  have hm1 : 0 < m := by omega
  unfold lim at hn
  refine fok_run rfl rfl ?_
  by_cases hz0 : 0 < z
  · simp [b_law_draw, hz0, mod_ii hm0, fdiv_ii hm0 hmn]
    obtain ⟨f1, f2⟩ := fmod_in (a := z) hm1
    exact k _ _ ⟨cs, at_, _, rfl, ha, by omega, fdiv_nn hz hm1, hc⟩ f1 f2
  · have b1 : -(2 ^ 64) < 36293 * at_ ∧ 36293 * at_ < 2 ^ 64 := by omega
    obtain ⟨s1, s2⟩ := sq_in ha (by omega)
    have mm : ∀ c : Int, 0 ≤ (c.fmod 2147483587) ∧ c.fmod 2147483587 < 2147483648 := fun c => mixed_in (a := 0) c (by omega) (by omega)
    have m0 : ∀ c : Int, 0 ≤ (c.fmod 2147483549) ∧ c.fmod 2147483549 < 2147483648 := fun c => mixed_in (a := 0) c (by omega) (by omega)
    have b2 : ∀ c : Int, -(2 ^ 64) < (c.fmod 2147483587) ∧ (c.fmod 2147483587) < 2 ^ 64 := fun c => by
      have := mm c
      omega
    have b3 : ∀ c : Int, (c.fmod 2147483549 + 52919 * at_ + 41).natAbs < 2 ^ 64 := fun c => by
      have := m0 c
      omega
    have b4 : ∀ c : Int, (c.fmod 2147483587 * (2 * at_ + 73) + 36293 * at_ * at_ + 59).natAbs < 2 ^ 64 := fun c => by
      have := mm c
      obtain ⟨q1, q2⟩ := prod_in this.1 this.2 (y := 2 * at_ + 73) (by omega) (by omega)
      omega
    have fin : ∀ (z' r : Int), 0 ≤ z' → p (.dat (.int (r.fmod m))) [.own true (.lst [.lst (cs.map .int), .int (at_ + 1), .int z']), .v (.int m)] := fun z' r hz' => by
      obtain ⟨f1, f2⟩ := fmod_in (a := r) hm1
      exact k _ _ ⟨cs, at_ + 1, z', rfl, by omega, by omega, hz', hc⟩ f1 f2
    have e1 : ∀ c x : Int, mulD (.int (c.fmod 2147483587)) (.int x) = some (.int (c.fmod 2147483587 * x)) := fun c x => mul_ii (b2 c)
    have e2 : mulD (.int (36293 * at_)) (.int at_) = some (.int (36293 * at_ * at_)) := mul_ii b1
    have e3 : ∀ c : Int, powD (.int (c.fmod 2147483549 + 52919 * at_ + 41)) (.int 5) = some (.int ((c.fmod 2147483549 + 52919 * at_ + 41) ^ 5)) := fun c => pow_ii (by omega) (by omega) (b3 c)
    have e4 : ∀ c : Int, powD (.int (c.fmod 2147483587 * (2 * at_ + 73) + 36293 * at_ * at_ + 59)) (.int 3) = some (.int ((c.fmod 2147483587 * (2 * at_ + 73) + 36293 * at_ * at_ + 59) ^ 3)) := fun c => pow_ii (by omega) (by omega) (b4 c)
    have e5 : powD (.int 10) (.int 18) = some (.int (10 ^ 18)) := pow_ii (by omega) (by omega) (by omega)
    have l1 : ∀ x : Int, mulD (.int 61343) (.int x) = some (.int (61343 * x)) := fun x => mul_ii (by omega)
    have l2 : ∀ x : Int, mulD (.int 52919) (.int x) = some (.int (52919 * x)) := fun x => mul_ii (by omega)
    have l3 : ∀ x : Int, mulD (.int 36293) (.int x) = some (.int (36293 * x)) := fun x => mul_ii (by omega)
    have l4 : ∀ x : Int, mulD (.int 2) (.int x) = some (.int (2 * x)) := fun x => mul_ii (by omega)
    have d1 : ∀ x : Int, modD (.int x) (.int 2147483549) = some (.int (x.fmod 2147483549)) := fun x => mod_ii (by omega)
    have d2 : ∀ x : Int, modD (.int x) (.int 2147483587) = some (.int (x.fmod 2147483587)) := fun x => mod_ii (by omega)
    have d3 : ∀ x : Int, modD (.int x) (.int 2147483629) = some (.int (x.fmod 2147483629)) := fun x => mod_ii (by omega)
    have d4 : ∀ x : Int, fdivD (.int x) (.int 32) = some (.int (x.fdiv 32)) := fun x => fdiv_ii (by omega) (by omega)
    have d5 : ∀ x : Int, modD (.int x) (.int m) = some (.int (x.fmod m)) := fun x => mod_ii hm0
    have d6 : ∀ x : Int, fdivD (.int x) (.int m) = some (.int (x.fdiv m)) := fun x => fdiv_ii hm0 hmn
    by_cases hcs : cs = []
    · subst hcs
      have ha' : ¬ at_ < 0 := by omega
      simp [b_law_draw, hz0, e1, e2, e3, e4, e5, l1, l2, l3, l4, d1, d2, d3, d4, d5, d6, ha']
      simpa using fin _ _ hz
    · have hl : 0 < (cs.length : Int) := by
        have := List.length_pos_iff.mpr hcs
        omega
      have hl0 : (cs.length : Int) ≠ 0 := by omega
      have hce : cs.isEmpty = false := by cases cs <;> simp_all
      obtain ⟨q1, q2⟩ := fmod_in (a := at_) hl
      obtain ⟨c, hcell⟩ := at_cell q1 q2
      have d7 : ∀ x : Int, modD (.int x) (.int cs.length) = some (.int (x.fmod cs.length)) := fun x => mod_ii hl0
      by_cases hal : at_ < cs.length
      · by_cases hbig : (1000000000000000000 : Int) ≤ (if c < 0 then -c else c)
        · simp [b_law_draw, hz0, e1, e2, e3, e4, e5, l1, l2, l3, l4, d1, d2, d3, d4, d5, d6, d7, hce, hal, hcell, hbig]
          have hg : (0 : Int) ≤ 2 * ((if c < 0 then -c else c) - 1000000000000000000) + (if c < 0 then 1 else 0) := by
            split <;> omega
          exact fin _ _ (fdiv_nn hg hm1)
        · simp [b_law_draw, hz0, e1, e2, e3, e4, e5, l1, l2, l3, l4, d1, d2, d3, d4, d5, d6, d7, hce, hal, hcell, hbig]
          exact fin _ _ hz
      · simp [b_law_draw, hz0, e1, e2, e3, e4, e5, l1, l2, l3, l4, d1, d2, d3, d4, d5, d6, d7, hce, hal, hcell]
        exact fin _ _ hz
end Lwk11
set_option Elab.async false
set_option linter.all false
set_option maxRecDepth 100000
set_option maxHeartbeats 2000000
namespace Lwk11
open PySem L2 Mi
def isW (d : D) (sg : List Nat) : Bool := match d with
  | .str s => decide (1 ≤ s.length ∧ s.length ≤ 8) && s.all fun c => decide (c ∈ sg)
  | _ => false
theorem bools_map {α : Type} (f : α → Bool) : ∀ xs : List α, boolsD (xs.map fun x => .bl (f x)) = some (xs.map f)
  | [] => rfl
  | x :: xs => by
    show (boolsD (xs.map fun x => .bl (f x))).map (fun r => f x :: r) = _
    rw [bools_map f xs]
    rfl
theorem all_map {α : Type} (f : α → Bool) (xs : List α) : allB [.lst (xs.map fun x => .bl (f x))] = some (.bl (xs.all f)) := by
  show (boolsD (xs.map fun x => .bl (f x))).map (fun ns => D.bl (ns.all id)) = _
  rw [bools_map]
  simp [List.all_map]
@[simp] theorem in_ss {c : Nat} {s : List Nat} : inD false (.str [c]) (.str s) = some (.bl (decide (c ∈ s))) := by simp [inD, inSg]
theorem f_is_written {d : D} {sg : List Nat} (h : tame d = true) : F_is_written [.v d, .v (.str sg)] = some (.ok (.dat (.bl (isW d sg))) [.v d, .v (.str sg)]) := by
  refine eq_fok (fok_run rfl rfl ?_)
  cases d with
  | frz _ => cases h
  | ref _ => cases h
  | str s =>
    have hl := str_le h
    by_cases h1 : 1 ≤ (s.length : Int)
    · by_cases h2 : (s.length : Int) ≤ 8
      · simp [b_is_written, isW, len_s hl, h1, h2]
        refine lc_map (fun d => match d with
          | .str [c] => .bl (decide (c ∈ sg))
          | _ => .non) (by simp) (by simp [chars]; exact line_le hl) (fun d hd => ?_) ?_
        · obtain ⟨c, hc, rfl⟩ := List.mem_map.mp hd
          simp
        · have e : ((chars s).map fun d => match d with
            | .str [c] => D.bl (decide (c ∈ sg))
            | _ => .non) = s.map fun c => .bl (decide (c ∈ sg)) := by simp [chars]
          rw [e]
          simp [all_map]
          intro _
          omega
      · simp [b_is_written, isW, len_s hl, h1, h2]
        intro _ _ 
        omega
    · simp [b_is_written, isW, len_s hl, h1]
      intro _ _ 
      omega
  | _ => simp [b_is_written, isW]
@[simp] theorem k_is_written {d : D} {sg : List Nat} {p : Fr → List Sl → Prop} (h : tame d = true) : Fok F_is_written [.v d, .v (.str sg)] p ↔ p (.dat (.bl (isW d sg))) [.v d, .v (.str sg)] := fok_eq (f_is_written h)
def isK (d : D) : Bool := isW d s0
def isV (d : D) : Bool := isW d (s0 ++ s1)
@[simp] theorem k_is_key {d : D} {p : Fr → List Sl → Prop} (h : tame d = true) : Fok F_is_key [.v d] p ↔ p (.dat (.bl (isK d))) [.v d] := fok_eq (eq_fok (fok_run rfl rfl (by simp [b_is_key, h, isK])))
theorem s01 : addD (.str s0) (.str s1) = some (.str (s0 ++ s1)) := add_ss (by decide)
@[simp] theorem k_is_value {d : D} {p : Fr → List Sl → Prop} (h : tame d = true) : Fok F_is_value [.v d] p ↔ p (.dat (.bl (isV d))) [.v d] := fok_eq (eq_fok (fok_run rfl rfl (by simp [b_is_value, h, isV, s01])))
def isNum (d : D) : Bool := match d with
  | .int i => decide (1 ≤ i ∧ i ≤ 999999)
  | _ => false
@[simp] theorem k_is_number {d : D} {p : Fr → List Sl → Prop} (h : tame d = true) : Fok F_is_number [.v d] p ↔ p (.dat (.bl (isNum d))) [.v d] := by
  refine fok_eq (eq_fok (fok_run rfl rfl ?_))
  cases d with
  | frz _ => cases h
  | ref _ => cases h
  | int i => by_cases h1 : 1 ≤ i <;> by_cases h2 : i ≤ 999999 <;> simp [b_is_number, isInt, isNum, h1, h2]
  | _ => simp [b_is_number, isInt, isNum, h]
@[simp] theorem k_is_moment {d : D} {p : Fr → List Sl → Prop} (h : tame d = true) : Fok F_is_moment [.v d] p ↔ p (.dat (.bl (isBelow d 1000000))) [.v d] := fok_eq (eq_fok (fok_run rfl rfl (by simp [b_is_moment, h])))
def isQ (d : D) : Bool := match d with
  | .tup (.str w :: r) => if w = s4 then (match r with
      | [k] => isK k
      | _ => false) else if w = s3 then (match r with
      | [a, b] => isK a && isK b
      | _ => false) else decide (w = s2) && r.isEmpty
  | _ => false
theorem isi_sn {d : D} (h : tame d = true) (hs : ∀ s, d ≠ .str s) : isiD .str d = some false := by
  cases d with
  | frz _ => cases h
  | ref _ => cases h
  | str s => exact absurd rfl (hs s)
  | _ => rfl
theorem eqc {α : Type} [BEq α] [LawfulBEq α] {a b : α} (h : a ≠ b) : (a == b) = false := by simp [h]
@[simp] theorem k_is_question {d : D} {p : Fr → List Sl → Prop} (h : tame d = true) : Fok F_is_question [.v d] p ↔ p (.dat (.bl (isQ d))) [.v d] := by
  refine fok_eq (eq_fok (fok_run rfl rfl ?_))
  cases d with
  | frz _ => cases h
  | ref _ => cases h
  | tup ds =>
    cases ds with
    | nil => simp [b_is_question, isQ]
    | cons a r =>
      have ha := tup_in h (List.mem_cons_self ..)
      by_cases hs : ∃ w, a = .str w
      · obtain ⟨w, rfl⟩ := hs
        by_cases w4 : w = s4
        · subst w4
          cases r with
          | nil => simp [b_is_question, isQ]
          | cons b r =>
            have hb := tup_in (d := b) h (by simp)
            cases r with
            | nil => simp [b_is_question, isQ, hb]
            | cons c r =>
              have : ((r.length : Int) + 1 + 1 + 1 == 2) = false := eqc (by omega)
              simp [b_is_question, isQ, this]
        · by_cases w3 : w = s3
          · subst w3
            have e4 : (s3 == s4) = false := by decide
            cases r with
            | nil => simp [b_is_question, isQ, e4, w4]
            | cons b r =>
              have hb := tup_in (d := b) h (by simp)
              cases r with
              | nil => simp [b_is_question, isQ, e4, w4]
              | cons c r =>
                have hc := tup_in (d := c) h (by simp)
                cases r with
                | nil => cases hk : isK b <;> simp [b_is_question, isQ, e4, w4, hb, hc, hk]
                | cons c r =>
                  have : ((r.length : Int) + 1 + 1 + 1 + 1 == 3) = false := eqc (by omega)
                  simp [b_is_question, isQ, this, e4, w4]
          · have e4 : (w == s4) = false := eqc w4
            have e3 : (w == s3) = false := eqc w3
            by_cases w2 : w = s2
            · subst w2
              have e : ((r.length : Int) + 1 == 1) = r.isEmpty := by
                cases r with
                | nil => rfl
                | cons a r => exact eqc (by simp; omega)
              simp [b_is_question, isQ, e4, e3, w4, w3, e]
            · have e2 : (w == s2) = false := eqc w2
              simp [b_is_question, isQ, e4, e3, e2, w2, w4, w3]
      · have hn : ∀ s, a ≠ .str s := fun s e => hs ⟨s, e⟩
        have hq : isQ (.tup (a :: r)) = false := by
          cases a with
          | str s => exact absurd rfl (hn s)
          | _ => rfl
        simp [b_is_question, hq, isi_sn ha hn]
  | _ => simp [b_is_question, isQ, h]
end Lwk11
set_option Elab.async false
set_option linter.all false
set_option maxRecDepth 100000
set_option maxHeartbeats 2000000
namespace Lwk11
open PySem L2 Mi
theorem tame_nr {d : D} (h : tame d = true) : ∀ l, d ≠ .ref l := fun l e => by
  subst e
  cases h
def isPr (d : D) : Bool := match d with
  | .tup [k, v] => isK k && isV v
  | _ => false
@[simp] theorem k_is_pair {d : D} {p : Fr → List Sl → Prop} (h : tame d = true) : Fok F_is_pair [.v d] p ↔ p (.dat (.bl (isPr d))) [.v d] := by
  refine fok_eq (eq_fok (fok_run rfl rfl ?_))
  cases d with
  | frz _ => cases h
  | ref _ => cases h
  | tup ds =>
    match ds with
    | [] => simp [b_is_pair, isPr]
    | [a] => simp [b_is_pair, isPr]
    | [a, b] =>
      have ha := tup_in (d := a) h (by simp)
      have hb := tup_in (d := b) h (by simp)
      cases hk : isK a <;> simp [b_is_pair, isPr, ha, hb, hk]
    | a :: b :: c :: r =>
      have : ((r.length : Int) + 1 + 1 + 1 == 2) = false := eqc (by omega)
      simp [b_is_pair, isPr, this]
  | _ => simp [b_is_pair, isPr]
/-- a pair's key -/
def pk (d : D) : List Nat := match d with
  | .tup (.str k :: _) => k
  | _ => []
def betw (lo hi : List Nat) (d : D) : Bool := !strLt (pk d) lo && !strLt hi (pk d)
def adj (f : D → D → Bool) (ds : List D) : Bool := (ds.zip (ds.tail)).all fun ab => f ab.1 ab.2
def arePrs (d : D) (lo hi : List Nat) : Bool := match d with
  | .tup ps => decide (ps.length ≤ 64) && ps.all isPr && ps.all (betw lo hi) && adj (fun a b => strLt (pk a) (pk b)) ps
  | _ => false
theorem isK_str {d : D} (h : isK d = true) : ∃ k, d = .str k := by
  cases d with
  | str k => exact ⟨k, rfl⟩
  | _ => cases h
theorem isPr_tup {d : D} (h : isPr d = true) : ∃ k v, d = .tup [.str k, v] ∧ isK (.str k) = true ∧ isV v = true := by
  unfold isPr at h
  split at h
  · rename_i k v
    simp only [Bool.and_eq_true] at h
    obtain ⟨k, rfl⟩ := isK_str h.1
    exact ⟨k, v, rfl, h⟩
  · cases h
theorem map_all {f : D → D} {g : D → Bool} {ds : List D} (h : ∀ d ∈ ds, f d = .bl (g d)) : ds.map f = ds.map fun d => .bl (g d) := List.map_congr_left h
theorem adj_zip {f : D → D → Bool} {F : D → D} {ds : List D} (h : ∀ a ∈ ds, ∀ b ∈ ds, F (.tup [a, b]) = .bl (f a b)) : allB [.lst ((zipD ds (ds.tail)).map F)] = some (.bl (adj f ds)) := by
  rw [zip_eq, List.map_map]
  have e : (ds.zip (ds.tail)).map (F ∘ fun ab => D.tup [ab.1, ab.2]) = (ds.zip (ds.tail)).map fun ab => .bl (f ab.1 ab.2) := by
    refine List.map_congr_left fun ab hm => ?_
    exact h _ (List.of_mem_zip hm).1 _ (List.mem_of_mem_tail (List.of_mem_zip hm).2)
  rw [e, all_map (fun ab : D × D => f ab.1 ab.2)]
  rfl
theorem zip_in {ds : List D} {d : D} (h : d ∈ zipD ds (ds.tail)) : ∃ a b, d = .tup [a, b] ∧ a ∈ ds ∧ b ∈ ds := by
  rw [zip_eq] at h
  obtain ⟨ab, h1, rfl⟩ := List.mem_map.mp h
  exact ⟨_, _, rfl, (List.of_mem_zip h1).1, List.mem_of_mem_tail (List.of_mem_zip h1).2⟩
theorem zip_len {ds : List D} : (zipD ds (ds.tail)).length ≤ ds.length := by
  rw [zip_eq]
  simp
@[simp] theorem k_are_pairs {d : D} {lo hi : List Nat} {p : Fr → List Sl → Prop} (h : tame d = true) : Fok F_are_pairs [.v d, .v (.str lo), .v (.str hi)] p ↔ p (.dat (.bl (arePrs d lo hi))) [.v d, .v (.str lo), .v (.str hi)] := by
  refine fok_eq (eq_fok (fok_run rfl rfl ?_))
  cases d with
  | frz _ => cases h
  | ref _ => cases h
  | tup ds =>
    by_cases h64 : ds.length ≤ 64
    · have h64' : ¬ (64 < (ds.length : Int)) := by omega
      have hl := line_le (tup_le h)
      have ht := fun d hd => tup_in (d := d) h hd
      simp [b_are_pairs, h64']
      refine lc_map (fun d => .bl (isPr d)) (by simp) hl (fun d hd => by simp [ht d hd]) ?_
      by_cases hp : ds.all isPr = true
      · have hp' : ∀ d ∈ ds, isPr d = true := List.all_eq_true.mp hp
        simp [all_map, hp]
        refine lc_map (fun d => .bl (betw lo hi d)) (by simp) hl (fun d hd => ?_) ?_
        · obtain ⟨k, v, rfl, _, _⟩ := isPr_tup (hp' d hd)
          cases e : strLt k lo <;> simp [betw, pk, e]
        · by_cases hb : ds.all (betw lo hi) = true
          · simp [all_map, hb]
            refine lc_map (fun d => match d with
              | .tup [a, b] => .bl (strLt (pk a) (pk b))
              | _ => .non) (by simp) (Nat.le_trans zip_len hl) (fun d hd => ?_) ?_
            · obtain ⟨a, b, rfl, ha, hb⟩ := zip_in hd
              obtain ⟨k, v, rfl, _, _⟩ := isPr_tup (hp' a ha)
              obtain ⟨k2, v2, rfl, _, _⟩ := isPr_tup (hp' b hb)
              simp [pk]
            · have e := adj_zip (ds := ds) (f := fun a b => strLt (pk a) (pk b)) (F := fun d => match d with
                | .tup [a, b] => .bl (strLt (pk a) (pk b))
                | _ => .non) fun _ _ _ _ => rfl
              simp [e, arePrs, h64, hp, hb]
          · have hb' : ds.all (betw lo hi) = false := by simpa using hb
            simp [all_map, hb', arePrs]
      · have hp' : ds.all isPr = false := by simpa using hp
        simp [all_map, hp', arePrs]
    · have h64' : 64 < (ds.length : Int) := by omega
      simp [b_are_pairs, arePrs, h64', h64]
  | _ => simp [b_are_pairs, arePrs]
def isA (q v : D) : Bool := isQ q && match q with
  | .tup (.str w :: r) => if w = s4 then (isNon v || isV v) else if w = s3 then (match r with
      | [.str a, .str b] => arePrs v a b
      | _ => false) else isBelow v 65
  | _ => false
theorem isQ_cases {d : D} (h : isQ d = true) : (∃ k, d = .tup [.str s4, .str k] ∧ isK (.str k) = true) ∨ (∃ a b, d = .tup [.str s3, .str a, .str b] ∧ isK (.str a) = true ∧ isK (.str b) = true) ∨ d = .tup [.str s2] := by
  unfold isQ at h
  split at h
  · rename_i w r
    by_cases w4 : w = s4
    · subst w4
      rw [if_pos rfl] at h
      split at h
      · rename_i k
        obtain ⟨k, rfl⟩ := isK_str h
        exact .inl ⟨k, rfl, h⟩
      · cases h
    · rw [if_neg w4] at h
      by_cases w3 : w = s3
      · subst w3
        rw [if_pos rfl] at h
        split at h
        · rename_i a b
          simp only [Bool.and_eq_true] at h
          obtain ⟨a, rfl⟩ := isK_str h.1
          obtain ⟨b, rfl⟩ := isK_str h.2
          exact .inr (.inl ⟨a, b, rfl, h⟩)
        · cases h
      · rw [if_neg w3] at h
        simp only [Bool.and_eq_true, decide_eq_true_eq, List.isEmpty_iff] at h
        obtain ⟨rfl, rfl⟩ := h
        exact .inr (.inr rfl)
  · cases h
theorem e34 : (s3 == s4) = false := by decide
theorem e24 : (s2 == s4) = false := by decide
theorem e23 : (s2 == s3) = false := by decide
theorem n34 : ¬ s3 = s4 := by decide
theorem n24 : ¬ s2 = s4 := by decide
theorem n23 : ¬ s2 = s3 := by decide
@[simp] theorem k_is_answer {q v : D} {p : Fr → List Sl → Prop} (hq : tame q = true) (h : tame v = true) : Fok F_is_answer [.v q, .v v] p ↔ p (.dat (.bl (isA q v))) [.v q, .v v] := by
  refine fok_eq (eq_fok (fok_run rfl rfl ?_))
  have hn := is_n (tame_nr h)
  cases hQ : isQ q with
  | false => simp [b_is_answer, hq, hQ, isA]
  | true =>
    rcases isQ_cases hQ with ⟨k, rfl, _⟩ | ⟨a, b, rfl, _, _⟩ | rfl
    · cases e : isNon v <;> simp [b_is_answer, hq, hQ, isA, hn, e, h]
    · simp [b_is_answer, hq, hQ, isA, hn, e34, n34, h]
    · simp [b_is_answer, hq, hQ, isA, hn, e24, e23, n24, n23, h]
def isN (d : D) : Bool := match d with
  | .tup [m, q, a] => isBelow m 1000000 && isA q a
  | _ => false
@[simp] theorem k_is_note {d : D} {p : Fr → List Sl → Prop} (h : tame d = true) : Fok F_is_note [.v d] p ↔ p (.dat (.bl (isN d))) [.v d] := by
  refine fok_eq (eq_fok (fok_run rfl rfl ?_))
  cases d with
  | frz _ => cases h
  | ref _ => cases h
  | tup ds =>
    match ds with
    | [] => simp [b_is_note, isN]
    | [a] => simp [b_is_note, isN]
    | [a, b] => simp [b_is_note, isN]
    | [a, b, c] =>
      have ha := tup_in (d := a) h (by simp)
      have hb := tup_in (d := b) h (by simp)
      have hc := tup_in (d := c) h (by simp)
      cases hk : isBelow a 1000000 <;> simp [b_is_note, isN, ha, hb, hc, hk]
    | a :: b :: c :: e :: r =>
      have : ((r.length : Int) + 1 + 1 + 1 + 1 == 3) = false := eqc (by omega)
      simp [b_is_note, isN, this]
  | _ => simp [b_is_note, isN]
/-- a note's moment -/
def nm (d : D) : Int := match d with
  | .tup (.int m :: _) => m
  | _ => 0
def areNs (d : D) : Bool := match d with
  | .tup ns => ns.all isN && adj (fun a b => decide (nm a ≤ nm b)) ns
  | _ => false
theorem isBelow_int {d : D} {n : Int} (h : isBelow d n = true) : ∃ i, d = .int i ∧ 0 ≤ i ∧ i < n := by
  cases d with
  | int i => exact ⟨i, rfl, by simpa [isBelow] using h⟩
  | _ => cases h
theorem isN_tup {d : D} (h : isN d = true) : ∃ m q a, d = .tup [.int m, q, a] ∧ 0 ≤ m ∧ m < 1000000 ∧ isA q a = true := by
  unfold isN at h
  split at h
  · rename_i m q a
    simp only [Bool.and_eq_true] at h
    obtain ⟨m, rfl, h1, h2⟩ := isBelow_int h.1
    exact ⟨m, q, a, rfl, h1, h2, h.2⟩
  · cases h
@[simp] theorem k_are_notes {d : D} {p : Fr → List Sl → Prop} (h : tame d = true) : Fok F_are_notes [.v d] p ↔ p (.dat (.bl (areNs d))) [.v d] := by
  refine fok_eq (eq_fok (fok_run rfl rfl ?_))
  cases d with
  | frz _ => cases h
  | ref _ => cases h
  | tup ds =>
    have hl := line_le (tup_le h)
    have ht := fun d hd => tup_in (d := d) h hd
    simp [b_are_notes]
    refine lc_map (fun d => .bl (isN d)) (by simp) hl (fun d hd => by simp [ht d hd]) ?_
    by_cases hp : ds.all isN = true
    · have hp' : ∀ d ∈ ds, isN d = true := List.all_eq_true.mp hp
      simp [all_map, hp]
      refine lc_map (fun d => match d with
        | .tup [a, b] => .bl (decide (nm a ≤ nm b))
        | _ => .non) (by simp) (Nat.le_trans zip_len hl) (fun d hd => ?_) ?_
      · obtain ⟨a, b, rfl, ha, hb⟩ := zip_in hd
        obtain ⟨k, v, u, rfl, _⟩ := isN_tup (hp' a ha)
        obtain ⟨k2, v2, u2, rfl, _⟩ := isN_tup (hp' b hb)
        simp [nm]
        rfl
      · have e := adj_zip (ds := ds) (f := fun a b => decide (nm a ≤ nm b)) (F := fun d => match d with
          | .tup [a, b] => .bl (decide (nm a ≤ nm b))
          | _ => .non) fun _ _ _ _ => rfl
        simp [e, areNs, hp]
    · have hp' : ds.all isN = false := by simpa using hp
      simp [all_map, hp', areNs]
  | _ => simp [b_are_notes, areNs]
end Lwk11
set_option Elab.async false
set_option linter.all false
set_option maxRecDepth 100000
set_option maxHeartbeats 2000000
namespace Lwk11
open PySem L2 Mi
def isR (d : D) : Bool := match d with
  | .tup (.str w :: r) => if w = s6 then (match r with
      | [n, ns] => isNum n && areNs ns
      | _ => false) else if w = s5 then (match r with
      | [a, b, ns] => isBelow a 1000000 && isBelow b 1000000 && areNs ns
      | _ => false) else false
  | _ => false
theorem e56 : (s5 == s6) = false := by decide
theorem n56 : ¬ s5 = s6 := by decide
@[simp] theorem k_is_run {d : D} {p : Fr → List Sl → Prop} (h : tame d = true) : Fok F_is_run [.v d] p ↔ p (.dat (.bl (isR d))) [.v d] := by
  refine fok_eq (eq_fok (fok_run rfl rfl ?_))
  cases d with
  | frz _ => cases h
  | ref _ => cases h
  | tup ds =>
    cases ds with
    | nil => simp [b_is_run, isR]
    | cons a r =>
      have ha := tup_in h (List.mem_cons_self ..)
      by_cases hs : ∃ w, a = .str w
      · obtain ⟨w, rfl⟩ := hs
        by_cases w4 : w = s6
        · subst w4
          match r with
          | [] => simp [b_is_run, isR]
          | [b] => simp [b_is_run, isR]
          | [b, c] =>
            have hb := tup_in (d := b) h (by simp)
            have hc := tup_in (d := c) h (by simp)
            cases e : isNum b <;> simp [b_is_run, isR, hb, hc, e]
          | b :: c :: e :: r =>
            have : ((r.length : Int) + 1 + 1 + 1 + 1 == 3) = false := eqc (by omega)
            simp [b_is_run, isR, this]
        · have e4 : (w == s6) = false := eqc w4
          by_cases w3 : w = s5
          · subst w3
            match r with
            | [] => simp [b_is_run, isR, e4, w4]
            | [b] => simp [b_is_run, isR, e4, w4]
            | [b, c] => simp [b_is_run, isR, e4, w4]
            | [b, c, d] =>
              have hb := tup_in (d := b) h (by simp)
              have hc := tup_in (d := c) h (by simp)
              have hd := tup_in (d := d) h (by simp)
              cases e : isBelow b 1000000 <;> cases e' : isBelow c 1000000 <;> simp [b_is_run, isR, e4, w4, hb, hc, hd, e, e']
            | b :: c :: e :: f :: r =>
              have : ((r.length : Int) + 1 + 1 + 1 + 1 + 1 == 4) = false := eqc (by omega)
              simp [b_is_run, isR, this, e4, w4]
          · have e3 : (w == s5) = false := eqc w3
            simp [b_is_run, isR, e4, e3, w4, w3]
      · have hn : ∀ s, a ≠ .str s := fun s e => hs ⟨s, e⟩
        have hq : isR (.tup (a :: r)) = false := by
          cases a with
          | str s => exact absurd rfl (hn s)
          | _ => rfl
        simp [b_is_run, hq, isi_sn ha hn]
  | _ => simp [b_is_run, isR, h]
theorem isi_tn {d : D} (h : tame d = true) (hs : ∀ s, d ≠ .tup s) : isiD .tuple d = some false := by
  cases d with
  | frz _ => cases h
  | ref _ => cases h
  | tup s => exact absurd rfl (hs s)
  | _ => rfl
def isAc (d : D) : Bool := match d with
  | .tup [n, .tup rs] => isK n && decide (1 ≤ rs.length ∧ rs.length ≤ 12) && rs.all isR
  | _ => false
@[simp] theorem k_is_account {d : D} {p : Fr → List Sl → Prop} (h : tame d = true) : Fok F_is_account [.v d] p ↔ p (.dat (.bl (isAc d))) [.v d] := by
  refine fok_eq (eq_fok (fok_run rfl rfl ?_))
  cases d with
  | frz _ => cases h
  | ref _ => cases h
  | tup ds =>
    match ds with
    | [] => simp [b_is_account, isAc]
    | [a] => simp [b_is_account, isAc]
    | [a, b] =>
      have ha := tup_in (d := a) h (by simp)
      have hb := tup_in (d := b) h (by simp)
      cases hk : isK a with
      | false => cases b <;> simp [b_is_account, isAc, ha, hk]
      | true =>
        by_cases hs : ∃ w, b = .tup w
        · obtain ⟨rs, rfl⟩ := hs
          have ht := fun d hd => tup_in (d := d) hb hd
          by_cases h1 : 1 ≤ (rs.length : Int)
          · by_cases h2 : (rs.length : Int) ≤ 12
            · simp [b_is_account, ha, hk, h1, h2]
              refine lc_map (fun d => .bl (isR d)) (by simp) (line_le (tup_le hb)) (fun d hd => by simp [ht d hd]) ?_
              have h1' : 1 ≤ rs.length := by omega
              have h2' : rs.length ≤ 12 := by omega
              simp [all_map, isAc, hk, h1', h2']
            · have h2' : ¬ rs.length ≤ 12 := by omega
              simp [b_is_account, isAc, ha, hk, h1, h2, h2']
          · have h1' : ¬ 1 ≤ rs.length := by omega
            simp [b_is_account, isAc, ha, hk, h1, h1']
        · have hn : ∀ s, b ≠ .tup s := fun s e => hs ⟨s, e⟩
          have hq : isAc (.tup [a, b]) = false := by
            cases b with
            | tup s => exact absurd rfl (hn s)
            | _ => rfl
          simp [b_is_account, ha, hk, hq, isi_tn hb hn]
    | a :: b :: c :: r =>
      have : ((r.length : Int) + 1 + 1 + 1 == 2) = false := eqc (by omega)
      simp [b_is_account, isAc, this]
  | _ => simp [b_is_account, isAc]
end Lwk11
set_option Elab.async false
set_option linter.all false
set_option maxRecDepth 100000
set_option maxHeartbeats 2000000
namespace Lwk11
open PySem L2 Mi
def addN : List D → List D → Option (List D)
  | [], ns => some ns
  | t :: ts, ns => if inFl t ns then none else addN ts (ns ++ [t])
def numO (d : D) : Option D := match d with
  | .tup (.str w :: n :: _) => if w = s6 then some n else none
  | _ => none
def told (rs : List D) : List D := rs.filterMap numO
def ntsOf (d : D) : List D := match d with
  | .tup [_, _, .tup ns] => ns
  | .tup [_, _, _, .tup ns] => ns
  | _ => []
def nmOf (d : D) : D := match d with
  | .tup (n :: _) => n
  | _ => .non
def rsOf (d : D) : List D := match d with
  | .tup [_, .tup rs] => rs
  | _ => []
def many (rs : List D) : Int := (rs.map fun r => ((ntsOf r).length : Int)).sum
def st1 (a : D) (i : Nat) (names nums : List D) (m r : Int) : Option (List D × Int × Int) :=
  if i = 6 ∨ isAc a = false ∨ inFl (nmOf a) names = true then none
  else if 60 < m + many (rsOf a) ∨ 5 < r + ((rsOf a).length - (told (rsOf a)).length) then none
  else (addN (told (rsOf a)) nums).map fun ns => (ns, m + many (rsOf a), r + ((rsOf a).length - (told (rsOf a)).length))
def fw : List D → Nat → List D → List D → Int → Int → Option Nat
  | [], _, _, _, _, _ => none
  | a :: as, i, names, nums, m, r => match st1 a i names nums m r with
    | none => some i
    | some (ns, m', r') => fw as (i + 1) (names ++ [nmOf a]) ns m' r'
theorem isAc_tup {d : D} (h : isAc d = true) : ∃ n rs, d = .tup [.str n, .tup rs] ∧ isK (.str n) = true ∧ 1 ≤ rs.length ∧ rs.length ≤ 12 ∧ ∀ r ∈ rs, isR r = true := by
  unfold isAc at h
  split at h
  · rename_i n rs
    simp only [Bool.and_eq_true, decide_eq_true_eq, List.all_eq_true] at h
    obtain ⟨n, rfl⟩ := isK_str h.1.1
    exact ⟨n, rs, rfl, h.1.1, h.1.2.1, h.1.2.2, h.2⟩
  · cases h
theorem isNum_int {d : D} (h : isNum d = true) : ∃ i, d = .int i ∧ 1 ≤ i ∧ i ≤ 999999 := by
  cases d with
  | int i => exact ⟨i, rfl, by simpa [isNum] using h⟩
  | _ => cases h
theorem areNs_tup {d : D} (h : areNs d = true) : ∃ ns, d = .tup ns ∧ ∀ n ∈ ns, isN n = true := by
  cases d with
  | tup ns => exact ⟨ns, rfl, by simp only [areNs, Bool.and_eq_true, List.all_eq_true] at h; exact h.1⟩
  | _ => cases h
theorem isR_cases {d : D} (h : isR d = true) : (∃ n ns, d = .tup [.str s6, .int n, .tup ns] ∧ 1 ≤ n ∧ n ≤ 999999 ∧ areNs (.tup ns) = true) ∨ ∃ a b ns, d = .tup [.str s5, .int a, .int b, .tup ns] ∧ areNs (.tup ns) = true := by
  unfold isR at h
  split at h
  · rename_i w r
    by_cases w4 : w = s6
    · subst w4
      rw [if_pos rfl] at h
      split at h
      · rename_i n ns
        simp only [Bool.and_eq_true] at h
        obtain ⟨i, rfl, h1, h2⟩ := isNum_int h.1
        obtain ⟨ns, rfl, h3⟩ := areNs_tup h.2
        exact .inl ⟨i, ns, rfl, h1, h2, h.2⟩
      · cases h
    · rw [if_neg w4] at h
      by_cases w3 : w = s5
      · subst w3
        rw [if_pos rfl] at h
        split at h
        · rename_i a b ns
          simp only [Bool.and_eq_true] at h
          obtain ⟨a, rfl, _⟩ := isBelow_int h.1.1
          obtain ⟨b, rfl, _⟩ := isBelow_int h.1.2
          obtain ⟨ns, rfl, h3⟩ := areNs_tup h.2
          exact .inr ⟨a, b, ns, rfl, h.2⟩
        · cases h
      · rw [if_neg w3] at h
        cases h
  · cases h
theorem told_flat {rs : List D} (h : ∀ r ∈ rs, isR r = true) : ∀ t ∈ told rs, flatD t = true := fun t ht => by
  obtain ⟨r, hr, e⟩ := List.mem_filterMap.mp ht
  rcases isR_cases (h r hr) with ⟨n, ns, rfl, _⟩ | ⟨a, b, ns, rfl, _⟩
  · simp [numO] at e
    subst e
    rfl
  · simp [numO, n56] at e
theorem ints_map {α : Type} (f : α → Int) : ∀ xs : List α, intsD (xs.map fun x => .int (f x)) = some (xs.map f)
  | [] => rfl
  | x :: xs => by
    show (intsD (xs.map fun x => .int (f x))).map (fun r => f x :: r) = _
    rw [ints_map f xs]
    rfl
theorem sum_map {α : Type} (f : α → Int) (xs : List α) : sumB [.lst (xs.map fun x => .int (f x))] = some (.int (xs.map f).sum) := by
  show (intsD (xs.map fun x => .int (f x))).map (fun ns => D.int ns.sum) = _
  rw [ints_map]
  rfl
theorem in_ls {x : D} {ds : List D} (h1 : flatD x = true) (h2 : ds.all flatD = true) : inD false x (.lst ds) = some (.bl (inFl x ds)) := by
  have e : inLs false x (.lst ds) = some (.bl (inFl x ds)) := by simp [inLs, h1, h2]
  have e2 : inSg false x (.lst ds) = none := by
    unfold inSg
    split
    · rename_i h
      cases h
    · rfl
  rw [inD, e2, e]
  rfl
/-- the inner loop: a number told twice -/
def wr : Ss := .cons (.ite (.or (.cmp .eq (.var 5) (.con (.int 6))) (.or (.not (.call F_is_account (.cons (.var 6) .nil) .nil)) (.cmp .isin (.idx (.var 6) (.con (.int 0))) (.var 1)))) (.cons (.retV 5) .nil) .nil) (.cons (.expr (.app 1 (.idx (.var 6) (.con (.int 0))))) (.cons (.asg 7 (.lc (.seq (.idx (.var 6) (.con (.int 1)))) (.nm 8) [8] (.so (.cmp .eq (.idx (.var 8) (.con (.int 0))) (.con (.str s6)))) (.idx (.var 8) (.con (.int 1))))) (.cons (.aug 3 .add (.bi .sum (.cons (.lc (.seq (.idx (.var 6) (.con (.int 1)))) (.nm 8) [8] .no (.bi .len (.cons (.idx (.var 8) (.neg (.con (.int 1)))) .nil))) .nil))) (.cons (.aug 4 .add (.op .sub (.bi .len (.cons (.idx (.var 6) (.con (.int 1))) .nil)) (.bi .len (.cons (.var 7) .nil)))) (.cons (.ite (.or (.cmp .gt (.var 3) (.con (.int 60))) (.cmp .gt (.var 4) (.con (.int 5)))) (.cons (.retV 5) .nil) .nil) (.cons (.for (.seq (.var 7)) (.nm 9) (.cons (.ite (.cmp .isin (.var 9) (.var 2)) (.cons (.retV 5) .nil) .nil) (.cons (.expr (.app 2 (.var 9))) .nil))) .nil))))))
theorem b_fw : b_first_wrong = (.cons (.par [1, 2, 3, 4] (.cons (.lst .nil) (.cons (.lst .nil) (.cons (.con (.int 0)) (.cons (.con (.int 0)) .nil))))) (.cons (.for (.enum (.cons (.var 0) .nil)) (.tup (.cons (.nm 5) (.cons (.nm 6) .nil))) wr) (.cons (.ret (.con .non)) .nil))) := rfl
theorem nums_loop {d : D} {i : Int} {names x7 : Sl} {m r : Int} {acct : D} {pF : Fl → En → Prop} : ∀ {ts : List D} {nums : List D} {x9 : Sl}, (∀ t ∈ ts, flatD t = true) → nums.all flatD = true → nums.length + ts.length ≤ 1000 →
    (match addN ts nums with
      | none => ∀ nums' x9, pF (.rt (.dat (.int i))) [.v d, names, .own false (.lst nums'), .v (.int m), .v (.int r), .v (.int i), .v acct, x7, .no, x9]
      | some nums' => nums'.all flatD = true → nums'.length = nums.length + ts.length → ∀ x9, pF .nx [.v d, names, .own false (.lst nums'), .v (.int m), .v (.int r), .v (.int i), .v acct, x7, .no, x9]) →
    Okv (forL (.nm 9) (Ss.cons (.ite (.cmp .isin (.var 9) (.var 2)) (.cons (.retV 5) .nil) .nil) (.cons (.expr (.app 2 (.var 9))) .nil)).ms ts) [.v d, names, .own false (.lst nums), .v (.int m), .v (.int r), .v (.int i), .v acct, x7, .no, x9] pF
  | [], nums, x9, _, hf, _, h => for_nil.mpr (h hf rfl x9)
  | t :: ts, nums, x9, ht, hf, hl, h => by
    refine for_cons ?_
    have h1 := ht t (List.mem_cons_self ..)
    cases e : inFl t nums with
    | true =>
      simp [in_ls h1 hf, e]
      have e3 : addN (t :: ts) nums = none := by simp [addN, e]
      rw [e3] at h
      exact h nums _
    | false =>
      have hl2 : nums.length < sizeLine := line_lt (by simp only [List.length_cons] at hl; omega)
      simp [in_ls h1 hf, e, hl2]
      refine nums_loop (fun t h => ht t (List.mem_cons_of_mem _ h)) ?_ ?_ ?_
      · simp only [List.all_append, hf, List.all_cons, h1, List.all_nil, Bool.and_true]
      · simp only [List.length_append, List.length_cons, List.length_nil] at hl ⊢
        omega
      · have e3 : addN (t :: ts) nums = addN ts (nums ++ [t]) := by simp [addN, e]
        rw [e3] at h
        cases e2 : addN ts (nums ++ [t]) with
        | none =>
          rw [e2] at h
          exact h
        | some nums' =>
          rw [e2] at h
          exact fun a b => h a (by simp only [List.length_append, List.length_cons, List.length_nil] at b ⊢; omega)
theorem idx_m1 {n : D} {ds : List D} (h : atI ds (-1) = some n) : idxD (.tup ds) (.int (-1)) = some n := by simp [h]
theorem isAc_tm {a : D} {n : List Nat} {rs : List D} (h : tame (.tup [.str n, .tup rs]) = true) : tame (.tup rs) = true := tup_in h (by simp)
@[simp] theorem aop_a {m n : Int} : Aop.f .add m n = m + n := by simp [Aop.f]
theorem atI_s2 {a b c : D} : atI [a, b, c] (-1) = some c := atI_m1 (xs := [a, b])
theorem atI_s3 {a b c d : D} : atI [a, b, c, d] (-1) = some d := atI_m1 (xs := [a, b, c])
/-- one account -/
theorem wr_ok {d a : D} {P : Fl → En → Prop} {i : Nat} {names nums : List D} {m r : Int} {x7 x9 : Sl} (h1 : tame a = true) (hf1 : names.all flatD = true) (hf2 : nums.all flatD = true) (hl1 : names.length ≤ i) (hl2 : i ≤ 6) (hl3 : nums.length ≤ 12 * i)
    (h : match st1 a i names nums m r with
      | none => ∀ ρ, P (.rt (.dat (.int (i : Nat)))) (.v d :: ρ)
      | some (ns, m', r') => ns.all flatD = true → ns.length ≤ 12 * (i + 1) → (names ++ [nmOf a]).all flatD = true → ∀ x5 x6 x7 x9, P .nx [.v d, .own false (.lst (names ++ [nmOf a])), .own false (.lst ns), .v (.int m'), .v (.int r'), x5, x6, x7, .no, x9]) :
    Okv wr.ms [.v d, .own false (.lst names), .own false (.lst nums), .v (.int m), .v (.int r), .v (.int (i : Nat)), .v a, x7, .no, x9] P := by
  by_cases i6 : i = 6
  · have e3 : st1 a i names nums m r = none := by simp [st1, i6]
    rw [e3] at h
    subst i6
    simp [wr]
    exact h _
  · have i6' : ((i : Int) == 6) = false := eqc (by omega)
    cases hA : isAc a with
    | false =>
      have e3 : st1 a i names nums m r = none := by simp [st1, hA]
      rw [e3] at h
      simp [wr, i6', h1, hA]
      exact h _
    | true =>
      obtain ⟨n, rs, rfl, hn, hr1, hr2, hr⟩ := isAc_tup hA
      cases hin : inFl (.str n) names with
      | true =>
        have e3 : st1 (.tup [.str n, .tup rs]) i names nums m r = none := by simp [st1, nmOf, hin]
        rw [e3] at h
        simp [wr, i6', h1, hA, in_ls (x := .str n) rfl hf1, hin]
        exact h _
      | false =>
        have hl : names.length < sizeLine := line_lt (by omega)
        have hlm : rs.length ≤ 1000000 := by omega
        simp [wr, i6', h1, hA, in_ls (x := .str n) rfl hf1, hin, hl]
        refine lc_fm numO (by simp) (line_le (by omega)) (fun q hq => ?_) ?_
        · rcases isR_cases (hr q hq) with ⟨k, ns, rfl, _⟩ | ⟨u, v, ns, rfl, _⟩
          · simp [numO]
          · simp [numO, e56, n56]
        · simp
          refine lc_map (fun q => .int ((ntsOf q).length : Int)) (by simp) (line_le hlm) (fun q hq => ?_) ?_
          · rcases isR_cases (hr q hq) with ⟨k, ns, rfl, _⟩ | ⟨u, v, ns, rfl, _⟩
            · simp [ntsOf, atI_s2]
            · simp [ntsOf, atI_s3]
          · have es : sumB [.lst (rs.map fun q => .int ((ntsOf q).length : Int))] = some (.int (many rs)) := sum_map (fun q => ((ntsOf q).length : Int)) rs
            have et : List.filterMap numO rs = told rs := rfl
            simp only [et]
            have hnm : nmOf (.tup [.str n, .tup rs]) = .str n := rfl
            have hrs : rsOf (.tup [.str n, .tup rs]) = rs := rfl
            have htl : (told rs).length ≤ rs.length := List.length_filterMap_le ..
            by_cases hm : 60 < m + many rs
            · have e3 : st1 (.tup [.str n, .tup rs]) i names nums m r = none := by simp [st1, hrs, hm]
              rw [e3] at h
              simp [es, hm]
              exact h _
            · by_cases hr : 5 < r + (rs.length - (told rs).length)
              · have e3 : st1 (.tup [.str n, .tup rs]) i names nums m r = none := by simp [st1, hrs, hr]
                rw [e3] at h
                simp [es, hm, hr]
                exact h _
              · simp [es, hm, hr]
                refine nums_loop (told_flat ‹_›) hf2 (by omega) ?_
                have e3 : st1 (.tup [.str n, .tup rs]) i names nums m r = (addN (told rs) nums).map fun ns => (ns, m + many rs, r + (rs.length - (told rs).length)) := by
                  simp [st1, hrs, hnm, hm, hr, hA, hin, i6]
                rw [e3] at h
                cases e4 : addN (told rs) nums with
                | none =>
                  rw [e4] at h
                  intro _ _
                  simp
                  exact h _
                | some ns =>
                  rw [e4] at h
                  intro q1 q2 x9
                  have hfn : (names ++ [nmOf (.tup [.str n, .tup rs])]).all flatD = true := by
                    rw [hnm, List.all_append, hf1]
                    rfl
                  simp
                  exact h q1 (by omega) hfn _ _ _ _
theorem fw_loop {d : D} {pF : Fl → En → Prop} : ∀ {as : List D} {i : Nat} {names nums : List D} {m r : Int} {x5 x6 x7 x9 : Sl}, (∀ a ∈ as, tame a = true) → names.all flatD = true → nums.all flatD = true → names.length ≤ i → i ≤ 6 → nums.length ≤ 12 * i →
    (match fw as i names nums m r with
      | some k => ∀ ρ, pF (.rt (.dat (.int (k : Nat)))) (.v d :: ρ)
      | none => ∀ ρ, pF .nx (.v d :: ρ)) →
    Okv (forL (.tup (.cons (.nm 5) (.cons (.nm 6) .nil))) wr.ms (enumD i as)) [.v d, .own false (.lst names), .own false (.lst nums), .v (.int m), .v (.int r), x5, x6, x7, .no, x9] pF
  | [], i, names, nums, m, r, x5, x6, x7, x9, _, _, _, _, _, _, h => for_nil.mpr (h _)
  | a :: as, i, names, nums, m, r, x5, x6, x7, x9, ht, hf1, hf2, hl1, hl2, hl3, h => by
    have h1 := ht a (List.mem_cons_self ..)
    refine for_cons ?_
    simp
    refine wr_ok h1 hf1 hf2 hl1 hl2 hl3 ?_
    cases e : st1 a i names nums m r with
    | none =>
      have e3 : fw (a :: as) i names nums m r = some i := by simp [fw, e]
      rw [e3] at h
      intro ρ
      exact .inr (.inr ⟨_, rfl, h _⟩)
    | some q =>
      obtain ⟨ns, m', r'⟩ := q
      have e3 : fw (a :: as) i names nums m r = fw as (i + 1) (names ++ [nmOf a]) ns m' r' := by simp [fw, e]
      rw [e3] at h
      intro q1 q2 q3 x5 x6 x7 x9
      have i6 : i ≠ 6 := fun z => by
        subst z
        simp [st1] at e
      refine .inl ⟨.inl rfl, fw_loop (fun a h => ht a (List.mem_cons_of_mem _ h)) q3 q1 ?_ ?_ q2 h⟩
      · simp only [List.length_append, List.length_cons, List.length_nil]
        omega
      · omega
def isAs (d : D) : Bool := match d with
  | .tup as => (fw as 0 [] [] 0 0).isNone
  | _ => false
@[simp] theorem k_are_accounts {d : D} {p : Fr → List Sl → Prop} (h : tame d = true) : Fok F_are_accounts [.v d] p ↔ p (.dat (.bl (isAs d))) [.v d] := by
  refine fok_eq (eq_fok (fok_run rfl rfl ?_))
  cases d with
  | frz _ => cases h
  | ref _ => cases h
  | tup as =>
    simp [b_are_accounts]
    refine fok_run rfl rfl ?_
    rw [b_fw]
    simp
    refine fw_loop (fun a ha => tup_in h ha) rfl rfl (Nat.le_refl _) (by omega) (Nat.le_refl _) ?_
    cases e : fw as 0 [] [] 0 0 with
    | none =>
      intro ρ
      simp [isAs, e]
      rfl
    | some k =>
      intro ρ
      simp [isAs, e]
      rfl
  | _ => simp [b_are_accounts, isAs]
end Lwk11
set_option Elab.async false
set_option linter.all false
set_option maxRecDepth 100000
set_option maxHeartbeats 2000000
namespace Lwk11
open PySem L2 Mi
/-! ### picks and texts -/
theorem t_pick_l {n : Nat} {pen ds : List D} {p : Fr → List Sl → Prop} (hp : PenOk n pen) (hn : n + 1 ≤ lim) (h1 : 1 ≤ ds.length) (h2 : ds.length ≤ 100000) (k : ∀ pen' d, PenOk (n + 1) pen' → d ∈ ds → p (.dat d) [.own true (.lst pen'), .v (.lst ds)]) :
    Fok F_law_pick [.own true (.lst pen), .v (.lst ds)] p := by
  refine fok_run rfl rfl ?_
  simp [b_law_pick]
  refine t_draw hp hn (by omega) (by omega) fun pen' r hp' r0 r1 => ?_
  obtain ⟨x, hx, hm⟩ := atI_some r0 r1
  simp [hx]
  exact k _ _ hp' hm
theorem t_pick_o {n : Nat} {pen ds : List D} {p : Fr → List Sl → Prop} (hp : PenOk n pen) (hn : n + 1 ≤ lim) (h1 : 1 ≤ ds.length) (h2 : ds.length ≤ 100000) (k : ∀ pen' d, PenOk (n + 1) pen' → d ∈ ds → p (.dat d) [.own true (.lst pen'), .own true (.lst ds)]) :
    Fok F_law_pick [.own true (.lst pen), .own true (.lst ds)] p := by
  refine fok_run rfl rfl ?_
  simp [b_law_pick]
  refine t_draw hp hn (by omega) (by omega) fun pen' r hp' r0 r1 => ?_
  obtain ⟨x, hx, hm⟩ := atI_some r0 r1
  simp [hx]
  exact k _ _ hp' hm
theorem t_pick_s {n : Nat} {pen : List D} {sg : List Nat} {p : Fr → List Sl → Prop} (hp : PenOk n pen) (hn : n + 1 ≤ lim) (h1 : 1 ≤ sg.length) (h2 : sg.length ≤ 100000) (k : ∀ pen' c, PenOk (n + 1) pen' → c ∈ sg → p (.dat (.str [c])) [.own true (.lst pen'), .v (.str sg)]) :
    Fok F_law_pick [.own true (.lst pen), .v (.str sg)] p := by
  refine fok_run rfl rfl ?_
  have hl : sg.length ≤ 1000000 := by omega
  simp [b_law_pick, len_s hl]
  refine t_draw hp hn (by omega) (by omega) fun pen' r hp' r0 r1 => ?_
  obtain ⟨x, hx, hm⟩ := atI_some r0 r1
  simp [idx_s hl, hx]
  exact k _ _ hp' hm
theorem join_chars : ∀ cs : List Nat, TL.joinL [] (cs.map fun c => [c]) = cs
  | [] => rfl
  | [c] => rfl
  | c :: d :: r => by
    show [c] ++ ([] ++ TL.joinL [] ((d :: r).map fun c => [c])) = _
    rw [join_chars (d :: r)]
    rfl
theorem strs_chars : ∀ cs : List Nat, strsD (cs.map fun c => .str [c]) = some (cs.map fun c => [c])
  | [] => rfl
  | c :: cs => by
    show (strsD (cs.map fun c => .str [c])).map (fun r => [c] :: r) = _
    rw [strs_chars cs]
    rfl
theorem join_ok {cs : List Nat} (h : cs.length ≤ 1000) : joinD (.str []) (.lst (cs.map fun c => .str [c])) = some (.str cs) := by
  have e : ((cs.map fun c => [c]).map (·.length)).sum = cs.length := by
    rw [List.map_map]
    clear h
    induction cs with
    | nil => rfl
    | cons c cs ih =>
      rw [List.map_cons, List.sum_cons, ih, List.length_cons]
      show 1 + cs.length = _
      omega
  have h2 : ((cs.map fun c => [c]).map (·.length)).sum + (cs.map fun c => [c]).length * ([] : List Nat).length ≤ 16777216 := by
    rw [e, List.length_nil, Nat.mul_zero]
    omega
  unfold joinD
  simp only [strs_chars]
  rw [if_pos h2, join_chars]
theorem t_text {n : Nat} {pen : List D} {sg : List Nat} {p : Fr → List Sl → Prop} (hp : PenOk n pen) (hn : n + 9 ≤ lim) (h1 : 1 ≤ sg.length) (h2 : sg.length ≤ 100000) (k : ∀ pen' t, PenOk (n + 9) pen' → 1 ≤ t.length → t.length ≤ 8 → (∀ c ∈ t, c ∈ sg) → p (.dat (.str t)) [.own true (.lst pen'), .v (.str sg)]) :
    Fok F_law_text [.own true (.lst pen), .v (.str sg)] p := by
  refine fok_run rfl rfl ?_
  simp [b_law_text, isS, s7]
  refine t_pick_l hp (by omega) (by decide) (by decide) fun pen1 d hp1 hd => ?_
  obtain ⟨m, rfl, m1, m2⟩ : ∃ m : Nat, d = .int (m : Int) ∧ 1 ≤ m ∧ m ≤ 8 := by
    simp at hd
    rcases hd with rfl | rfl | rfl | rfl | rfl
    · exact ⟨1, rfl, by decide, by decide⟩
    · exact ⟨8, rfl, by decide, by decide⟩
    · exact ⟨2, rfl, by decide, by decide⟩
    · exact ⟨3, rfl, by decide, by decide⟩
    · exact ⟨5, rfl, by decide, by decide⟩
  simp [rngK1_n (n := m) (by omega)]
  obtain ⟨P, hP⟩ : ∃ P : List D → List D → En → Prop, ∀ rs vs ρ, P rs vs ρ ↔ (rs.length + vs.length = m ∧ ∃ (pen : List D) (cs : List Nat), PenOk (n + 1 + vs.length) pen ∧ ρ = [.own true (.lst pen), .v (.str sg), .no] ∧ vs = cs.map (fun c => .str [c]) ∧ ∀ c ∈ cs, c ∈ sg) := ⟨_, fun _ _ _ => Iff.rfl⟩
  refine lc_inv P (by simp) ?_ ?_ ?_
  · exact (hP _ _ _).mpr ⟨by simp [rngD], pen1, [], hp1, by simp, rfl, by simp⟩
  · intro d rs vs ρ h
    obtain ⟨hl, pen, cs, hp, rfl, rfl, hc⟩ := (hP _ _ _).mp h
    simp only [List.length_cons, List.length_map] at hl
    simp only [List.length_map] at hp
    simp
    refine t_pick_s hp (by omega) h1 h2 fun pen' c hp' hc' => ?_
    have : cs.length < sizeLine := line_lt (by omega)
    simp [this]
    refine (hP _ _ _).mpr ⟨by simp; omega, pen', cs ++ [c], by simp; rw [← Nat.add_assoc]; exact hp', rfl, by simp, ?_⟩
    intro c1 h
    rcases List.mem_append.mp h with h | h
    · exact hc _ h
    · rw [List.mem_singleton.mp h]
      exact hc'
  · intro vs ρ h
    obtain ⟨hl, pen, cs, hp, rfl, rfl, hc⟩ := (hP _ _ _).mp h
    simp only [List.length_nil, List.length_map, Nat.zero_add] at hl
    simp only [List.length_map] at hp
    simp [join_ok (cs := cs) (by omega)]
    exact k _ _ (hp.mono (by omega)) (by omega) (by omega) hc
end Lwk11
set_option Elab.async false
set_option linter.all false
set_option maxRecDepth 100000
set_option maxHeartbeats 2000000
namespace Lwk11
open PySem L2 Mi
theorem isW_iff {k sg : List Nat} : isW (.str k) sg = true ↔ 1 ≤ k.length ∧ k.length ≤ 8 ∧ ∀ c ∈ k, c ∈ sg := by
  simp [isW, and_assoc]
theorem ky_iff {k : List Nat} : isK (.str k) = true ↔ 1 ≤ k.length ∧ k.length ≤ 8 ∧ ∀ c ∈ k, c ∈ s0 := isW_iff
theorem vl_iff {k : List Nat} : isV (.str k) = true ↔ 1 ≤ k.length ∧ k.length ≤ 8 ∧ ∀ c ∈ k, c ∈ s0 ++ s1 := isW_iff
theorem ky_tame {k : List Nat} (h : isK (.str k) = true) : tame (.str k) = true := tame_s (by have := ky_iff.mp h; omega)
theorem vl_tame {k : List Nat} (h : isV (.str k) = true) : tame (.str k) = true := tame_s (by have := vl_iff.mp h; omega)
theorem mem_s0 {c : Nat} : c ∈ s0 ↔ 97 ≤ c ∧ c ≤ 122 := by
  simp only [s0, List.mem_cons, List.not_mem_nil, or_false]
  omega
theorem mem_s1 {c : Nat} : c ∈ s1 ↔ 48 ≤ c ∧ c ≤ 57 := by
  simp only [s1, List.mem_cons, List.not_mem_nil, or_false]
  omega
theorem t_key {n : Nat} {pen : List D} {p : Fr → List Sl → Prop} (hp : PenOk n pen) (hn : n + 9 ≤ lim) (k : ∀ pen' t, PenOk (n + 9) pen' → isK (.str t) = true → p (.dat (.str t)) [.own true (.lst pen')]) :
    Fok F_law_key [.own true (.lst pen)] p := by
  refine fok_run rfl rfl ?_
  simp [b_law_key]
  refine t_text hp hn (by decide) (by decide) fun pen' t hp' h1 h2 h3 => ?_
  simp
  exact k _ _ hp' (ky_iff.mpr ⟨h1, h2, h3⟩)
theorem t_value {n : Nat} {pen : List D} {p : Fr → List Sl → Prop} (hp : PenOk n pen) (hn : n + 9 ≤ lim) (k : ∀ pen' t, PenOk (n + 9) pen' → isV (.str t) = true → p (.dat (.str t)) [.own true (.lst pen')]) :
    Fok F_law_value [.own true (.lst pen)] p := by
  refine fok_run rfl rfl ?_
  simp [b_law_value]
  refine t_text hp hn (by decide) (by decide) fun pen' t hp' h1 h2 h3 => ?_
  simp
  exact k _ _ hp' (vl_iff.mpr ⟨h1, h2, h3⟩)
/-! ### keys -/
def kk (hd : List Nat) (j : Nat) (t : List Nat) : List Nat := hd ++ [97 + j / 26] ++ [97 + j % 26] ++ t
theorem lt_app {a b : List Nat} : ∀ hd : List Nat, a < b → hd ++ a < hd ++ b
  | [], h => h
  | c :: hd, h => by
    rw [List.cons_append, List.cons_append, List.cons_lt_cons_iff]
    exact .inr ⟨rfl, lt_app hd h⟩
theorem kk_lt {hd t u : List Nat} {i j : Nat} (h : i < j) : strLt (kk hd i t) (kk hd j u) = true := by
  unfold strLt kk
  rw [decide_eq_true_eq, List.append_assoc, List.append_assoc, List.append_assoc, List.append_assoc]
  refine lt_app hd ?_
  show (97 + i / 26) :: ((97 + i % 26) :: t) < (97 + j / 26) :: ((97 + j % 26) :: u)
  rw [List.cons_lt_cons_iff, List.cons_lt_cons_iff]
  omega
theorem s0_get {i : Nat} (h : i < 26) : s0[i]? = some (97 + i) := by
  have : ∀ i : Fin 26, s0[i.val]? = some (97 + i.val) := by decide
  exact this ⟨i, h⟩
structure KsOk (n : Nat) (ks : List (List Nat)) : Prop where
  len : ks.length = n
  ky : ∀ k ∈ ks, isK (.str k) = true
  asc : ks.Pairwise fun a b => strLt a b = true
theorem rngD_s {lo : Int} {n : Nat} : rngD lo (n + 1) = .int lo :: rngD (lo + 1) n := by
  unfold rngD
  rw [List.range_succ_eq_map, List.map_cons, List.map_map]
  rw [List.cons.injEq]
  refine ⟨by simp, List.map_congr_left fun i _ => ?_⟩
  show D.int (lo + ((i + 1 : Nat) : Int)) = .int (lo + 1 + (i : Nat))
  congr 1
  omega
theorem rngD_0 {lo : Int} : rngD lo 0 = [] := rfl
theorem rngD_cons {lo : Int} {n : Nat} {d : D} {ds : List D} (h : rngD lo n = d :: ds) : ∃ m, n = m + 1 ∧ d = .int lo ∧ ds = rngD (lo + 1) m := by
  cases n with
  | zero => cases h
  | succ m =>
    rw [rngD_s] at h
    cases h
    exact ⟨m, rfl, rfl, rfl⟩
theorem t_keys {n : Nat} {pen : List D} {mny : Nat} {p : Fr → List Sl → Prop} (hp : PenOk n pen) (hm : mny ≤ 100) (hn : n + 200 ≤ lim) (k : ∀ pen' ks, PenOk (n + 200) pen' → KsOk mny ks → p (.new (.lst (ks.map .str))) [.own true (.lst pen'), .v (.int mny)]) :
    Fok F_law_keys [.own true (.lst pen), .v (.int (mny : Nat))] p := by
  refine fok_run rfl rfl ?_
  simp [b_law_keys]
  refine t_key hp (by omega) fun pen1 hd0 hp1 hk => ?_
  simp
  refine t_draw hp1 (by omega) (by omega) (by omega) fun pen2 r hp2 r0 r1 => ?_
  obtain ⟨q1, q2, q3⟩ := ky_iff.mp hk
  obtain ⟨r, rfl⟩ : ∃ k : Nat, r = k := ⟨r.toNat, by omega⟩
  simp [sli_s (a := hd0) (by omega)]
  have hhd : (hd0.take r).length ≤ 6 := by
    rw [List.length_take]
    omega
  have hhc : ∀ c ∈ hd0.take r, c ∈ s0 := fun c hc => q3 c (List.mem_of_mem_take hc)
  generalize hd0.take r = hd at hhd hhc
  refine t_draw hp2 (by omega) (by omega) (by omega) fun pen3 b hp3 b0 b1 => ?_
  obtain ⟨b, rfl⟩ : ∃ k : Nat, b = k := ⟨b.toNat, by omega⟩
  simp [rngK2_n (i := (b : Int)) (n := mny) (by omega) (by omega) (by omega)]
  obtain ⟨P, hP⟩ : ∃ P : List D → En → Prop, ∀ rs ρ, P rs ρ ↔ (∃ (j : Nat) (m : Nat) (pen : List D) (ks : List (List Nat)) (x6 x7 : Sl), rs = rngD (j : Nat) m ∧ j + m = b + mny ∧ PenOk (n + 20 + ks.length) pen ∧ ks.length + m = mny ∧ (∀ k ∈ ks, isK (.str k) = true ∧ ∃ i t, k = kk hd i t ∧ i < j) ∧ (ks.Pairwise fun a b => strLt a b = true) ∧
    ρ = [.own true (.lst pen), .v (.int (mny : Nat)), .v (.str s0), .v (.str hd), .v (.int (b : Nat)), .own false (.lst (ks.map .str)), x6, x7]) := ⟨_, fun _ _ => Iff.rfl⟩
  refine for_inv P ?_ ?_ ?_
  · exact (hP _ _).mpr ⟨b, mny, pen3, [], .no, .no, rfl, rfl, hp3.mono (by simp), by simp, by simp, .nil, rfl⟩
  · intro d ds ρ h
    obtain ⟨j, m, pen, ks, x6, x7, e1, e2, hp, e3, hk, ha, rfl⟩ := (hP _ _).mp h
    obtain ⟨m, rfl, rfl, rfl⟩ := rngD_cons e1.symm
    have q1 : (j : Int) / 26 = ((j / 26 : Nat) : Int) := by omega
    have q2 : (j : Int) % 26 = ((j % 26 : Nat) : Int) := by omega
    have i1 : idxD (.str s0) (.int ((j : Int) / 26)) = some (.str [97 + j / 26]) := by
      rw [q1, idx_s (by decide), atI_n, s0_get (by omega)]
      rfl
    have i2 : idxD (.str s0) (.int ((j : Int) % 26)) = some (.str [97 + j % 26]) := by
      rw [q2, idx_s (by decide), atI_n, s0_get (by omega)]
      rfl
    have fin : ∀ (pen' : List D) (t : List Nat), PenOk (n + 20 + ks.length + 1) pen' → (∀ c ∈ t, c ∈ s0) → hd.length + t.length ≤ 6 → P (rngD ((j : Int) + 1) m) [.own true (.lst pen'), .v (.int (mny : Nat)), .v (.str s0), .v (.str hd), .v (.int (b : Nat)), .own false (.lst (ks.map .str ++ [.str (kk hd j t)])), .v (.int (j : Nat)), .v (.str t)] := by
      intro pen' t hp' ht hl
      refine (hP _ _).mpr ⟨j + 1, m, pen', ks ++ [kk hd j t], _, _, rfl, by omega, ?_, ?_, ?_, ?_, by rw [List.map_append]; rfl⟩
      · rw [List.length_append]
        exact hp'
      · rw [List.length_append, List.length_singleton]
        omega
      · intro k hk'
        rcases List.mem_append.mp hk' with h | h
        · obtain ⟨h1, i, t, h2, h3⟩ := hk k h
          exact ⟨h1, i, t, h2, by omega⟩
        · rw [List.mem_singleton.mp h]
          refine ⟨ky_iff.mpr ⟨?_, ?_, ?_⟩, j, t, rfl, by omega⟩
          · simp only [kk, List.length_append, List.length_singleton]
            omega
          · simp only [kk, List.length_append, List.length_singleton]
            omega
          · intro c hc
            simp only [kk, List.mem_append, List.mem_singleton] at hc
            rcases hc with ((hc | hc) | hc) | hc
            · exact hhc c hc
            · exact mem_s0.mpr (by omega)
            · exact mem_s0.mpr (by omega)
            · exact ht c hc
      · rw [List.pairwise_append]
        refine ⟨ha, List.pairwise_singleton .., fun k h1 k2 h2 => ?_⟩
        rw [List.mem_singleton.mp h2]
        obtain ⟨_, i, t, rfl, h3⟩ := hk k h1
        exact kk_lt h3
    have hlk : ks.length < sizeLine := line_lt (by omega)
    have f1 : fdivD (.int (j : Int)) (.int 26) = some (.int ((j : Int) / 26)) := by rw [fdiv_ii (by omega) (by omega), Int.fdiv_eq_ediv_of_nonneg _ (by omega)]
    have f2 : modD (.int (j : Int)) (.int 26) = some (.int ((j : Int) % 26)) := by rw [mod_ii (by omega), Int.fmod_eq_emod_of_nonneg _ (by omega)]
    have a1 : addD (.str hd) (.str [97 + j / 26]) = some (.str (hd ++ [97 + j / 26])) := add_ss (by simp; omega)
    have a2 : addD (.str (hd ++ [97 + j / 26])) (.str [97 + j % 26]) = some (.str (hd ++ [97 + j / 26, 97 + j % 26])) := by rw [add_ss (by simp; omega), List.append_assoc]; rfl
    have a3 : ∀ t : List Nat, t.length ≤ 6 → addD (.str (hd ++ [97 + j / 26, 97 + j % 26])) (.str t) = some (.str (kk hd j t)) := fun t ht => by rw [add_ss (by simp; omega), kk]; simp
    by_cases h6 : (hd.length : Int) < 6
    · simp [len_s (a := hd) (by omega), h6]
      refine t_pick_l hp (by omega) (by decide) (by decide) fun pen' t hp' ht => ?_
      obtain ⟨t, rfl, t1, t2⟩ : ∃ u, t = .str u ∧ u.length ≤ 1 ∧ ∀ c ∈ u, c ∈ s0 := by
        simp at ht
        rcases ht with rfl | rfl | rfl
        · exact ⟨_, rfl, by decide, by decide⟩
        · exact ⟨_, rfl, by decide, by decide⟩
        · exact ⟨_, rfl, by decide, by decide⟩
      simp [f1, f2, i1, i2, a1, a2, a3 t (by omega), hlk]
      exact fin _ _ hp' t2 (by omega)
    · simp [len_s (a := hd) (by omega), h6, f1, f2, i1, i2, a1, a2, a3 s7 (by decide), hlk]
      exact fin _ s7 (hp.mono (by omega)) (by simp [s7]) (by simp [s7]; omega)
  · intro ρ h
    obtain ⟨j, m, pen, ks, x6, x7, e1, e2, hp, e3, hk, ha, rfl⟩ := (hP _ _).mp h
    have hm0 : m = 0 := by
      cases m with
      | zero => rfl
      | succ m => rw [rngD_s] at e1; cases e1
    simp
    exact k _ _ (hp.mono (by omega)) ⟨by omega, fun k h => (hk k h).1, ha⟩
end Lwk11
set_option Elab.async false
set_option linter.all false
set_option maxRecDepth 100000
set_option maxHeartbeats 2000000
namespace Lwk11
open PySem L2 Mi
def pr (kv : List Nat × List Nat) : D := .tup [.str kv.1, .str kv.2]
structure PsOk (n : Nat) (kvs : List (List Nat × List Nat)) : Prop where
  ks : KsOk n (kvs.map (·.1))
  vl : ∀ kv ∈ kvs, isV (.str kv.2) = true
theorem PsOk.len {n : Nat} {kvs : List (List Nat × List Nat)} (h : PsOk n kvs) : kvs.length = n := by
  have := h.ks.len
  rwa [List.length_map] at this
theorem enum_pairs (f : D → D) (hf : ∀ (i : Nat) k, ∃ v, f (.tup [.int (i : Nat), .str k]) = pr (k, v) ∧ isV (.str v) = true) : ∀ (ks : List (List Nat)) (i : Nat), ∃ kvs : List (List Nat × List Nat), (enumD i (ks.map .str)).map f = kvs.map pr ∧ kvs.map (·.1) = ks ∧ ∀ kv ∈ kvs, isV (.str kv.2) = true
  | [], i => ⟨[], rfl, rfl, by simp⟩
  | k :: ks, i => by
    obtain ⟨v, h1, h2⟩ := hf i k
    obtain ⟨kvs, h3, h4, h5⟩ := enum_pairs f hf ks (i + 1)
    refine ⟨(k, v) :: kvs, ?_, by rw [List.map_cons, h4], ?_⟩
    · show f (.tup [.int (i : Nat), .str k]) :: (enumD (i + 1) (ks.map .str)).map f = _
      rw [h1, h3]
      rfl
    · intro kv h
      rcases List.mem_cons.mp h with rfl | h
      · exact h2
      · exact h5 _ h
theorem enum_mem : ∀ (ds : List D) (i : Nat) {d : D}, d ∈ enumD i ds → ∃ j x, d = .tup [.int (j : Nat), x] ∧ x ∈ ds ∧ j < i + ds.length
  | [], _, _, h => by cases h
  | x :: ds, i, d, h => by
    rcases List.mem_cons.mp (show d ∈ .tup [.int (i : Nat), x] :: enumD (i + 1) ds from h) with rfl | h
    · exact ⟨i, x, rfl, List.mem_cons_self .., by simp⟩
    · obtain ⟨j, y, h1, h2, h3⟩ := enum_mem ds (i + 1) h
      exact ⟨j, y, h1, List.mem_cons_of_mem _ h2, by rw [List.length_cons]; omega⟩
def pf (ts : List (List Nat)) (d : D) : D := match d with
  | .tup [.int i, k] => .tup [k, (atI (ts.map D.str) (i.fmod 3)).getD .non]
  | d => d
theorem t_pairs {n : Nat} {pen : List D} {mny : Nat} {p : Fr → List Sl → Prop} (hp : PenOk n pen) (hm : mny ≤ 100) (hn : n + 300 ≤ lim) (k : ∀ pen' kvs, PenOk (n + 300) pen' → PsOk mny kvs → p (.dat (.tup (kvs.map pr))) [.own true (.lst pen'), .v (.int mny)]) :
    Fok F_law_pairs [.own true (.lst pen), .v (.int (mny : Nat))] p := by
  refine fok_run rfl rfl ?_
  simp [b_law_pairs, rngK1_n (n := 3) (by omega)]
  have e3 : rngK1 [.int 3] = some (rngD 0 3) := rngK1_n (n := 3) (by omega)
  simp [e3]
  obtain ⟨P, hP⟩ : ∃ P : List D → List D → En → Prop, ∀ rs vs ρ, P rs vs ρ ↔ (rs.length + vs.length = 3 ∧ ∃ (pen : List D) (ts : List (List Nat)), PenOk (n + 9 * vs.length) pen ∧ ρ = [.own true (.lst pen), .v (.int (mny : Nat)), .no, .no, .no, .no] ∧ vs = ts.map .str ∧ ∀ t ∈ ts, isV (.str t) = true) := ⟨_, fun _ _ _ => Iff.rfl⟩
  refine lc_inv P (by simp) ?_ ?_ ?_
  · exact (hP _ _ _).mpr ⟨by simp [rngD], pen, [], hp, by simp, rfl, by simp⟩
  · intro d rs vs ρ h
    obtain ⟨hl, pen, cs, hp, rfl, rfl, hc⟩ := (hP _ _ _).mp h
    simp only [List.length_cons, List.length_map] at hl
    simp only [List.length_map] at hp
    simp
    refine t_value hp (by omega) fun pen' c hp' hc' => ?_
    have : cs.length < sizeLine := line_lt (by omega)
    simp [this]
    refine (hP _ _ _).mpr ⟨by simp; omega, pen', cs ++ [c], hp'.mono (by simp; omega), rfl, by simp, ?_⟩
    intro c1 h
    rcases List.mem_append.mp h with h | h
    · exact hc _ h
    · rw [List.mem_singleton.mp h]
      exact hc'
  · intro vs ρ h
    obtain ⟨hl, pen, ts, hp, rfl, rfl, ht⟩ := (hP _ _ _).mp h
    simp only [List.length_nil, List.length_map, Nat.zero_add] at hl
    simp only [List.length_map] at hp
    simp
    refine t_keys hp hm (by omega) fun pen' ks hp' hks => ?_
    simp
    have hl1 : ks.length = mny := hks.len
    have hf : ∀ (i : Nat) k, ∃ v, pf ts (.tup [.int (i : Nat), .str k]) = pr (k, v) ∧ isV (.str v) = true := fun i k => by
      obtain ⟨q1, q2⟩ := fmod_in (a := (i : Int)) (b := 3) (by omega)
      obtain ⟨x, h1, h2⟩ := atI_some (xs := ts.map D.str) q1 (by rw [List.length_map]; omega)
      obtain ⟨t, h3, rfl⟩ := List.mem_map.mp h2
      exact ⟨t, by simp [h1, pr, pf], ht t h3⟩
    refine lc_map (pf ts) (by simp) (line_le (by rw [enumD_len, List.length_map]; omega)) (fun d hd => ?_) ?_
    · obtain ⟨j, x, rfl, h2, h3⟩ := enum_mem _ _ hd
      obtain ⟨k, h4, rfl⟩ := List.mem_map.mp h2
      obtain ⟨q1, q2⟩ := fmod_in (a := (j : Int)) (b := 3) (by omega)
      obtain ⟨x, h1, h2⟩ := atI_some (xs := ts.map D.str) q1 (by rw [List.length_map]; omega)
      have hm3 : modD (.int (j : Nat)) (.int 3) = some (.int ((j : Int).fmod 3)) := mod_ii (by omega)
      simp [hm3, h1, pf]
    · obtain ⟨kvs, h1, h2, h3⟩ := enum_pairs _ hf ks 0
      rw [h1]
      simp
      exact k _ _ (hp'.mono (by omega)) ⟨by rw [h2]; exact hks, h3⟩
/-! ### order -/
theorem nlt_pre {a : Nat} {r : List Nat} : ¬ (a :: r < [a]) := by
  rw [List.cons_lt_cons_iff]
  rintro (h | ⟨_, h⟩)
  · omega
  · exact absurd h (by simp)
theorem ge_a {k : List Nat} (h : isK (.str k) = true) : strLt k [97] = false := by
  obtain ⟨h1, h2, h3⟩ := ky_iff.mp h
  cases k with
  | nil => cases h1
  | cons c r =>
    have := mem_s0.mp (h3 c (List.mem_cons_self ..))
    unfold strLt
    rw [decide_eq_false_iff_not, List.cons_lt_cons_iff]
    rintro (h | ⟨_, h⟩)
    · omega
    · exact absurd h (by simp)
theorem le_z' : ∀ (n : Nat) {k : List Nat}, k.length ≤ n → (∀ c ∈ k, c ≤ 122) → ¬ (List.replicate n 122 < k)
  | n, [], _, _ => by simp
  | 0, c :: r, h, _ => by simp at h
  | n + 1, c :: r, h, hc => by
    rw [List.replicate_succ, List.cons_lt_cons_iff]
    have := hc c (List.mem_cons_self ..)
    rintro (h1 | ⟨_, h1⟩)
    · omega
    · exact le_z' n (by simpa using h) (fun c h => hc c (List.mem_cons_of_mem _ h)) h1
theorem le_z {k : List Nat} (h : isK (.str k) = true) : strLt s11 k = false := by
  obtain ⟨h1, h2, h3⟩ := ky_iff.mp h
  unfold strLt
  rw [decide_eq_false_iff_not]
  exact le_z' 8 h2 fun c hc => (mem_s0.mp (h3 c hc)).2
theorem lt_irr {a : List Nat} : strLt a a = false := by simp [strLt]
theorem lt_tr {a b c : List Nat} (h1 : strLt a b = true) (h2 : strLt b c = true) : strLt a c = true := by
  simp only [strLt, decide_eq_true_eq] at *
  exact List.lt_trans h1 h2
theorem lt_as {a b : List Nat} (h1 : strLt a b = true) : strLt b a = false := by
  cases h : strLt b a with
  | false => rfl
  | true =>
    have := lt_tr h1 h
    rw [lt_irr] at this
    cases this
theorem nlt_tr {a b c : List Nat} (h1 : strLt b a = false) (h2 : strLt c b = false) : strLt c a = false := by
  simp only [strLt, decide_eq_false_iff_not] at *
  exact List.not_lt.mpr (List.le_trans (List.not_lt.mp h1) (List.not_lt.mp h2))
/-! ### pairs that are asked -/
theorem pr_tame {kv : List Nat × List Nat} (h1 : isK (.str kv.1) = true) (h2 : isV (.str kv.2) = true) : tame (pr kv) = true := by
  simp [pr, tame_t, ky_tame h1, vl_tame h2]
theorem PsOk.ky {n : Nat} {kvs : List (List Nat × List Nat)} (h : PsOk n kvs) {kv : List Nat × List Nat} (hm : kv ∈ kvs) : isK (.str kv.1) = true := h.ks.ky _ (List.mem_map.mpr ⟨kv, hm, rfl⟩)
theorem PsOk.tame {n : Nat} {kvs : List (List Nat × List Nat)} (h : PsOk n kvs) (hn : n ≤ 100) : tame (.tup (kvs.map pr)) = true := by
  rw [tame_t, Bool.and_eq_true, decide_eq_true_eq, List.length_map, h.len, tames_iff]
  refine ⟨by omega, fun d hd => ?_⟩
  obtain ⟨kv, hm, rfl⟩ := List.mem_map.mp hd
  exact pr_tame (h.ky hm) (h.vl kv hm)
theorem isPr_pr {kv : List Nat × List Nat} (h1 : isK (.str kv.1) = true) (h2 : isV (.str kv.2) = true) : isPr (pr kv) = true := by
  simp [isPr, pr, h1, h2]
theorem adj_pw {f : D → D → Bool} : ∀ {ds : List D}, ds.Pairwise (fun a b => f a b = true) → adj f ds = true
  | [], _ => rfl
  | [a], _ => rfl
  | a :: b :: r, h => by
    have h1 := List.pairwise_cons.mp h
    have h2 := adj_pw h1.2
    simp only [adj, List.tail_cons, List.zip_cons_cons, List.all_cons, Bool.and_eq_true] at h2 ⊢
    exact ⟨h1.1 b (List.mem_cons_self ..), h2⟩
theorem PsOk.are {n : Nat} {kvs : List (List Nat × List Nat)} {lo hi : List Nat} (h : PsOk n kvs) (hn : n ≤ 64) (hb : ∀ kv ∈ kvs, strLt kv.1 lo = false ∧ strLt hi kv.1 = false) : arePrs (.tup (kvs.map pr)) lo hi = true := by
  simp only [arePrs, Bool.and_eq_true, decide_eq_true_eq, List.length_map, List.all_eq_true]
  refine ⟨⟨⟨by rw [h.len]; exact hn, ?_⟩, ?_⟩, ?_⟩
  · intro d hd
    obtain ⟨kv, hm, rfl⟩ := List.mem_map.mp hd
    exact isPr_pr (h.ky hm) (h.vl kv hm)
  · intro d hd
    obtain ⟨kv, hm, rfl⟩ := List.mem_map.mp hd
    obtain ⟨h1, h2⟩ := hb kv hm
    simp [betw, pk, pr, h1, h2]
  · refine adj_pw (List.pairwise_map.mpr ?_)
    exact List.pairwise_map.mp h.ks.asc
theorem pw_first {kvs : List (List Nat × List Nat)} {a : List Nat × List Nat} (h : ((a :: kvs).map (·.1)).Pairwise fun a b => strLt a b = true) : ∀ kv ∈ a :: kvs, strLt kv.1 a.1 = false := by
  intro kv hm
  rcases List.mem_cons.mp hm with rfl | hm
  · exact lt_irr
  · exact lt_as ((List.pairwise_cons.mp h).1 _ (List.mem_map.mpr ⟨kv, hm, rfl⟩))
theorem pw_last {kvs : List (List Nat × List Nat)} {a : List Nat × List Nat} (h : ((kvs ++ [a]).map (·.1)).Pairwise fun a b => strLt a b = true) : ∀ kv ∈ kvs ++ [a], strLt a.1 kv.1 = false := by
  intro kv hm
  rw [List.map_append, List.pairwise_append] at h
  rcases List.mem_append.mp hm with hm | hm
  · exact lt_as (h.2.2 _ (List.mem_map.mpr ⟨kv, hm, rfl⟩) _ (by simp))
  · rw [List.mem_singleton.mp hm]
    exact lt_irr
end Lwk11
set_option Elab.async false
set_option linter.all false
set_option maxRecDepth 100000
set_option maxHeartbeats 2000000
namespace Lwk11
open PySem L2 Mi
@[simp] theorem idx_pr0 {kv : List Nat × List Nat} : idxD (pr kv) (.int 0) = some (.str kv.1) := by simp [pr]
@[simp] theorem idx_pr1 {kv : List Nat × List Nat} : idxD (pr kv) (.int 1) = some (.str kv.2) := by simp [pr]
theorem tm_s0 : tame (.str s0) = true := tame_s (by decide)
theorem tm_s2 : tame (.str s2) = true := tame_s (by decide)
theorem tm_s3 : tame (.str s3) = true := tame_s (by decide)
theorem tm_s4 : tame (.str s4) = true := tame_s (by decide)
theorem tm_s5 : tame (.str s5) = true := tame_s (by decide)
theorem tm_s6 : tame (.str s6) = true := tame_s (by decide)
theorem isA_get {k : List Nat} {a : D} (h : isK (.str k) = true) (ha : isNon a = true ∨ isV a = true) : isA (.tup [.str s4, .str k]) a = true := by
  rcases ha with h1 | h1 <;> simp [isA, isQ, h, h1]
theorem isA_count {a : D} (h : isBelow a 65 = true) : isA (.tup [.str s2]) a = true := by
  simp [isA, isQ, h, n24, n23]
theorem isA_scan {lo hi : List Nat} {a : D} (h1 : isK (.str lo) = true) (h2 : isK (.str hi) = true) (h : arePrs a lo hi = true) : isA (.tup [.str s3, .str lo, .str hi]) a = true := by
  simp [isA, isQ, h, n34, h1, h2]
theorem ky_1 {k : List Nat} (h : isK (.str k) = true) : isK (.str (k.take 1)) = true := by
  obtain ⟨h1, h2, h3⟩ := ky_iff.mp h
  refine ky_iff.mpr ⟨?_, ?_, fun c hc => h3 c (List.mem_of_mem_take hc)⟩ <;> rw [List.length_take] <;> omega
theorem t_asked {n : Nat} {pen : List D} {p : Fr → List Sl → Prop} (hp : PenOk n pen) (hn : n + 500 ≤ lim) (k : ∀ pen' q a, PenOk (n + 500) pen' → isA q a = true → tame q = true → tame a = true → p (.dat (.tup [q, a])) [.own true (.lst pen'), .v (.int 4)]) :
    Fok F_law_asked [.own true (.lst pen), .v (.int 4)] p := by
  refine fok_run rfl rfl ?_
  simp [b_law_asked]
  refine t_draw hp (by omega) (by omega) (by omega) fun pen1 way hp1 w0 w1 => ?_
  by_cases e0 : way = 0
  · subst e0
    simp
    refine t_key hp1 (by omega) fun pen2 key hp2 hk => ?_
    simp
    refine t_value hp2 (by omega) fun pen3 v hp3 hv => ?_
    simp
    refine t_pick_l hp3 (by omega) (by simp) (by simp) fun pen4 a hp4 ha => ?_
    simp
    have tk : tame (.tup [.str s4, .str key]) = true := by simp [tame_t, tm_s4, ky_tame hk]
    simp at ha
    rcases ha with rfl | rfl
    · exact k _ _ _ (hp4.mono (by omega)) (isA_get hk (.inl rfl)) tk rfl
    · exact k _ _ _ (hp4.mono (by omega)) (isA_get hk (.inr hv)) tk (vl_tame hv)
  · have f0 : (way == 0) = false := eqc e0
    by_cases e1 : way = 1
    · subst e1
      simp
      refine t_draw hp1 (by omega) (by omega) (by omega) fun pen2 r hp2 r0 r1 => ?_
      simp
      refine t_pick_l hp2 (by omega) (by simp) (by simp) fun pen3 a hp3 ha => ?_
      simp
      have tk : tame (.tup [.str s2]) = true := by simp [tame_t, tm_s2]
      simp at ha
      rcases ha with rfl | rfl | rfl
      · exact k _ _ _ (hp3.mono (by omega)) (isA_count rfl) tk rfl
      · exact k _ _ _ (hp3.mono (by omega)) (isA_count rfl) tk rfl
      · exact k _ _ _ (hp3.mono (by omega)) (isA_count (by simp [isBelow]; omega)) tk rfl
    · have f1 : (way == 1) = false := eqc e1
      simp [f0, f1]
      refine t_pick_l hp1 (by omega) (by simp) (by simp) fun pen2 m hp2 hm => ?_
      obtain ⟨m, rfl, hm⟩ : ∃ j : Nat, m = .int (j : Int) ∧ j ≤ 4 := by
        simp at hm
        rcases hm with rfl | rfl | rfl | rfl
        · exact ⟨0, rfl, by decide⟩
        · exact ⟨1, rfl, by decide⟩
        · exact ⟨2, rfl, by decide⟩
        · exact ⟨4, rfl, by decide⟩
      simp
      refine t_pairs hp2 (by omega) (by omega) fun pen3 kvs hp3 hps => ?_
      have htp := hps.tame (by omega)
      cases kvs with
      | nil =>
        simp
        refine t_key hp3 (by omega) fun pen4 k1 hp4 hk1 => ?_
        simp
        refine t_key hp4 (by omega) fun pen5 k2 hp5 hk2 => ?_
        simp
        exact k _ _ _ (hp5.mono (by omega)) (isA_scan hk1 hk2 (by simp [arePrs, adj])) (by simp [tame_t, tm_s3, ky_tame hk1, ky_tame hk2]) (by simp [tame_t])
      | cons a rest =>
        obtain ⟨ini, z, hz⟩ : ∃ ini z, a :: rest = ini ++ [z] := ⟨_, _, (List.dropLast_concat_getLast (l := a :: rest) (by simp)).symm⟩
        have hka : isK (.str a.1) = true := hps.ky (List.mem_cons_self ..)
        have hkz : isK (.str z.1) = true := hps.ky (by rw [hz]; simp)
        have la : a.1.length ≤ 1000000 := str_le (ky_tame hka)
        have hlast : atI (pr a :: rest.map pr) (-1) = some (pr z) := by
          have : pr a :: rest.map pr = ini.map pr ++ [pr z] := by
            have := congrArg (List.map pr) hz
            simpa using this
          rw [this]
          exact atI_m1
        have lo_ok := pw_first hps.ks.asc
        have hi_ok : ∀ kv ∈ a :: rest, strLt z.1 kv.1 = false := by
          have := hps.ks.asc
          rw [hz] at this ⊢
          exact pw_last this
        simp [hlast, idx_pr0, sli_s la]
        refine t_pick_l hp3 (by omega) (by simp) (by simp) fun pen4 lo hp4 hlo => ?_
        obtain ⟨lo, rfl, hl1, hl2⟩ : ∃ l, lo = .str l ∧ isK (.str l) = true ∧ ∀ kv ∈ a :: rest, strLt kv.1 l = false := by
          simp at hlo
          rcases hlo with rfl | rfl | rfl
          · exact ⟨_, rfl, hka, lo_ok⟩
          · exact ⟨s10, rfl, by decide, fun kv hm => ge_a (hps.ky hm)⟩
          · refine ⟨_, rfl, ky_1 hka, fun kv hm => nlt_tr (b := a.1) ?_ (lo_ok kv hm)⟩
            obtain ⟨q1, _, _⟩ := ky_iff.mp hka
            cases h : a.1 with
            | nil => rw [h] at q1; cases q1
            | cons c r => simpa [strLt] using nlt_pre
        simp
        refine t_pick_l hp4 (by omega) (by simp) (by simp) fun pen5 hi hp5 hhi => ?_
        obtain ⟨hi, rfl, hh1, hh2⟩ : ∃ l, hi = .str l ∧ isK (.str l) = true ∧ ∀ kv ∈ a :: rest, strLt l kv.1 = false := by
          simp at hhi
          rcases hhi with rfl | rfl
          · exact ⟨_, rfl, hkz, hi_ok⟩
          · exact ⟨s11, rfl, by decide, fun kv hm => le_z (hps.ky hm)⟩
        simp
        exact k _ _ _ (hp5.mono (by omega)) (isA_scan hl1 hh1 (hps.are (by omega) fun kv hm => ⟨hl2 kv hm, hh2 kv hm⟩)) (by simp [tame_t, tm_s3, ky_tame hl1, ky_tame hh1]) htp
end Lwk11
set_option Elab.async false
set_option linter.all false
set_option maxRecDepth 100000
set_option maxHeartbeats 2000000
namespace Lwk11
open PySem L2 Mi
structure MsOk (n : Nat) (ms : List Int) : Prop where
  len : ms.length = n
  rg : ∀ m ∈ ms, 0 ≤ m ∧ m ≤ 999999
  asc : ms.Pairwise (· ≤ ·)
theorem t_moments {n : Nat} {pen : List D} {mny : Nat} {p : Fr → List Sl → Prop} (hp : PenOk n pen) (hm : mny ≤ 20) (hn : n + 100 ≤ lim) (k : ∀ pen' ms, PenOk (n + 100) pen' → MsOk mny ms → p (.new (.lst (ms.map .int))) [.own true (.lst pen'), .v (.int mny)]) :
    Fok F_law_moments [.own true (.lst pen), .v (.int (mny : Nat))] p := by
  refine fok_run rfl rfl ?_
  simp [b_law_moments]
  refine t_pick_l hp (by omega) (by simp) (by simp) fun pen1 a hp1 ha => ?_
  obtain ⟨a, rfl, ha1, ha2⟩ : ∃ i : Int, a = .int i ∧ 0 ≤ i ∧ i ≤ 999999 := by
    simp at ha
    rcases ha with rfl | rfl | rfl
    · exact ⟨_, rfl, by decide, by decide⟩
    · exact ⟨_, rfl, by decide, by decide⟩
    · exact ⟨_, rfl, by decide, by decide⟩
  simp [rngK1_n (n := mny) (by omega)]
  obtain ⟨P, hP⟩ : ∃ P : List D → En → Prop, ∀ rs ρ, P rs ρ ↔ (∃ (a : Int) (pen : List D) (ms : List Int) (x4 : Sl), rs.length + ms.length = mny ∧ PenOk (n + 1 + 2 * ms.length) pen ∧ (∀ m ∈ ms, 0 ≤ m ∧ m ≤ a) ∧ 0 ≤ a ∧ a ≤ 999999 ∧ ms.Pairwise (· ≤ ·) ∧
    ρ = [.own true (.lst pen), .v (.int (mny : Nat)), .v (.int a), .own false (.lst (ms.map .int)), x4]) := ⟨_, fun _ _ => Iff.rfl⟩
  refine for_inv P ?_ ?_ ?_
  · exact (hP _ _).mpr ⟨a, pen1, [], .no, by simp [rngD], hp1, by simp, ha1, ha2, .nil, rfl⟩
  · intro d ds ρ h
    obtain ⟨a, pen, ms, x4, hl, hp, hr, h0, h1, hw, rfl⟩ := (hP _ _).mp h
    simp only [List.length_cons] at hl
    have hlk : ms.length < sizeLine := line_lt (by omega)
    simp [hlk]
    refine t_draw hp (by omega) (by omega) (by omega) fun pen2 r hp2 r0 r1 => ?_
    simp
    refine t_pick_l hp2 (by omega) (by simp) (by simp) fun pen3 e hp3 he => ?_
    obtain ⟨e, rfl, he⟩ : ∃ i : Int, e = .int i ∧ 0 ≤ i := by
      simp at he
      rcases he with rfl | rfl | rfl
      · exact ⟨_, rfl, by decide⟩
      · exact ⟨_, rfl, by decide⟩
      · exact ⟨_, rfl, r0⟩
    simp
    refine (hP _ _).mpr ⟨_, pen3, ms ++ [a], _, by rw [List.length_append, List.length_singleton]; omega, hp3.mono (by rw [List.length_append, List.length_singleton]; omega), ?_, ?_, ?_, ?_, by rw [List.map_append]; rfl⟩
    · intro m hm
      rcases List.mem_append.mp hm with h | h
      · have := hr m h
        split <;> omega
      · rw [List.mem_singleton.mp h]
        split <;> omega
    · split <;> omega
    · split <;> omega
    · rw [List.pairwise_append]
      refine ⟨hw, List.pairwise_singleton .., fun x hx y hy => ?_⟩
      rw [List.mem_singleton.mp hy]
      exact (hr x hx).2
  · intro ρ h
    obtain ⟨a, pen, ms, x4, hl, hp, hr, h0, h1, hw, rfl⟩ := (hP _ _).mp h
    simp only [List.length_nil, Nat.zero_add] at hl
    simp
    exact k _ _ (hp.mono (by omega)) ⟨hl, fun m hm => by have := hr m hm; omega, hw⟩
structure NsOk (n : Nat) (ns : List D) : Prop where
  len : ns.length = n
  ok : ∀ v ∈ ns, isN v = true ∧ tame v = true
  asc : (ns.map nm).Pairwise (· ≤ ·)
theorem NsOk.are {n : Nat} {ns : List D} (h : NsOk n ns) : areNs (.tup ns) = true := by
  simp only [areNs, Bool.and_eq_true, List.all_eq_true]
  refine ⟨fun v hv => (h.ok v hv).1, adj_pw ?_⟩
  have := List.pairwise_map.mp h.asc
  exact this.imp fun h => decide_eq_true h
theorem NsOk.tame {n : Nat} {ns : List D} (h : NsOk n ns) (hn : n ≤ 1000) : tame (.tup ns) = true := by
  rw [tame_t, Bool.and_eq_true, decide_eq_true_eq, h.len, tames_iff]
  exact ⟨hn, fun d hd => (h.ok d hd).2⟩
def numD : Option Int → D
  | none => .non
  | some i => .int i
def mkRun : Option Int → Int → Int → List D → D
  | none, a, b, ns => .tup [.str s5, .int a, .int b, .tup ns]
  | some i, _, _, ns => .tup [.str s6, .int i, .tup ns]
theorem t_run {n : Nat} {pen : List D} {num : Option Int} {mny : Nat} {p : Fr → List Sl → Prop} (hp : PenOk n pen) (hm : mny ≤ 10) (hn : n + 10000 ≤ lim) (k : ∀ pen' a b ns, PenOk (n + 10000) pen' → NsOk mny ns → 0 ≤ a → a < 1000000 → 0 ≤ b → b < 1000000 → p (.dat (mkRun num a b ns)) [.own true (.lst pen'), .v (numD num), .v (.int mny)]) :
    Fok F_law_run [.own true (.lst pen), .v (numD num), .v (.int (mny : Nat))] p := by
  refine fok_run rfl rfl ?_
  simp [b_law_run]
  refine t_moments hp (by omega) (by omega) fun pen1 ms hp1 hms => ?_
  simp
  obtain ⟨P, hP⟩ : ∃ P : List D → List D → En → Prop, ∀ rs vs ρ, P rs vs ρ ↔ (∃ (pen : List D) (done todo : List Int), ms = done ++ todo ∧ rs = todo.map .int ∧ vs.map nm = done ∧ PenOk (n + 100 + 500 * vs.length) pen ∧ (∀ v ∈ vs, isN v = true ∧ tame v = true) ∧
    ρ = [.own true (.lst pen), .v (numD num), .v (.int (mny : Nat)), .no, .no, .no, .no]) := ⟨_, fun _ _ _ => Iff.rfl⟩
  refine lc_inv P (by simp) ?_ ?_ ?_
  · exact (hP _ _ _).mpr ⟨pen1, [], ms, rfl, rfl, rfl, hp1, by simp, by simp⟩
  · intro d ds vs ρ h
    obtain ⟨pen, done, todo, e1, e2, e3, hp, hv, rfl⟩ := (hP _ _ _).mp h
    cases todo with
    | nil => cases e2
    | cons m todo =>
      cases e2
      have hl : vs.length + (todo.length + 1) = mny := by
        have h1 := congrArg List.length e1
        have h2 := congrArg List.length e3
        rw [hms.len, List.length_append, List.length_cons] at h1
        rw [List.length_map] at h2
        omega
      simp
      refine t_asked hp (by omega) fun pen' q a hp' hA hq ha => ?_
      have hlk : vs.length < sizeLine := line_lt (by omega)
      have at2 : addD (.tup [.int m]) (.tup [q, a]) = some (.tup [.int m, q, a]) := add_tt (by simp)
      simp [at2, hlk]
      have hmr := hms.rg m (by rw [e1]; simp)
      refine (hP _ _ _).mpr ⟨pen', done ++ [m], todo, by rw [e1]; simp, rfl, by rw [List.map_append, e3]; rfl, hp'.mono (by rw [List.length_append, List.length_singleton]; omega), ?_, rfl⟩
      intro v h
      rcases List.mem_append.mp h with h | h
      · exact hv v h
      · rw [List.mem_singleton.mp h]
        have : isBelow (.int m) 1000000 = true := by simp [isBelow]; omega
        exact ⟨by simp [isN, this, hA], by simp [tame_t, hq, ha]⟩
  · intro ns ρ h
    obtain ⟨pen, done, todo, e1, e2, e3, hp, hv, rfl⟩ := (hP _ _ _).mp h
    cases todo with
    | cons m todo => cases e2
    | nil =>
      rw [List.append_nil] at e1
      subst e1
      have hl : ns.length = mny := by
        rw [← hms.len, ← e3, List.length_map]
      have hns : NsOk mny ns := ⟨hl, hv, by rw [e3]; exact hms.asc⟩
      cases num with
      | some i =>
        have : isNon (.int i) = false := rfl
        simp [numD, this]
        exact k _ 0 0 _ (hp.mono (by omega)) hns (by omega) (by omega) (by omega) (by omega)
      | none =>
        have : isNon .non = true := rfl
        have e2 : rngK1 [.int 2] = some (rngD 0 2) := rngK1_n (n := 2) (by omega)
        simp [numD, this, e2]
        obtain ⟨P, hP⟩ : ∃ P : List D → List D → En → Prop, ∀ rs vs ρ, P rs vs ρ ↔ (rs.length + vs.length = 2 ∧ ∃ (pen : List D) (ts : List Int), PenOk (n + 5200 + 2 * vs.length) pen ∧ ρ = [.own true (.lst pen), .v .non, .v (.int (mny : Nat)), .v (.tup ns), .no, .no, .no] ∧ vs = ts.map .int ∧ ∀ t ∈ ts, 0 ≤ t ∧ t < 1000000) := ⟨_, fun _ _ _ => Iff.rfl⟩
        refine lc_inv P (by simp) ?_ ?_ ?_
        · exact (hP _ _ _).mpr ⟨by simp [rngD], pen, [], hp.mono (by simp; omega), by simp, rfl, by simp⟩
        · intro d rs vs ρ h
          obtain ⟨hl, pen, cs, hp, rfl, rfl, hc⟩ := (hP _ _ _).mp h
          simp only [List.length_cons, List.length_map] at hl
          simp only [List.length_map] at hp
          simp
          refine t_draw hp (by omega) (by omega) (by omega) fun pen2 r hp2 r0 r1 => ?_
          simp
          refine t_pick_l hp2 (by omega) (by simp) (by simp) fun pen' c hp' hc' => ?_
          obtain ⟨c, rfl, hcr⟩ : ∃ i : Int, c = .int i ∧ 0 ≤ i ∧ i < 1000000 := by
            simp at hc'
            rcases hc' with rfl | rfl | rfl | rfl
            · exact ⟨_, rfl, by decide⟩
            · exact ⟨_, rfl, by decide⟩
            · exact ⟨_, rfl, by decide⟩
            · exact ⟨_, rfl, r0, r1⟩
          have : cs.length < sizeLine := line_lt (by omega)
          simp [this]
          refine (hP _ _ _).mpr ⟨by simp; omega, pen', cs ++ [c], hp'.mono (by simp; omega), rfl, by simp, ?_⟩
          intro c1 h
          rcases List.mem_append.mp h with h | h
          · exact hc _ h
          · rw [List.mem_singleton.mp h]
            exact hcr
        · intro vs ρ h
          obtain ⟨hl, pen, cs, hp, rfl, rfl, hc⟩ := (hP _ _ _).mp h
          simp only [List.length_nil, List.length_map, Nat.zero_add] at hl
          simp only [List.length_map] at hp
          match cs, hl with
          | [a, b], _ =>
            have ha := hc a (by simp)
            have hb := hc b (by simp)
            simp
            exact k _ a b _ (hp.mono (by simp)) hns ha.1 ha.2 hb.1 hb.2
end Lwk11
set_option Elab.async false
set_option linter.all false
set_option maxRecDepth 100000
set_option maxHeartbeats 2000000
namespace Lwk11
open PySem L2 Mi
def AllS (ds : List D) : Prop := ∀ d ∈ ds, ∃ s, d = .str s
def AllI (ds : List D) : Prop := ∀ d ∈ ds, ∃ i, d = .int i
theorem inFl_s {s : List Nat} {ds : List D} (h : AllS ds) : inFl (.str s) ds = true ↔ .str s ∈ ds := by
  unfold inFl
  rw [List.any_eq_true]
  constructor
  · rintro ⟨y, hy, e⟩
    obtain ⟨t, rfl⟩ := h y hy
    have : t = s := by simpa [eqFl] using e
    rwa [← this]
  · exact fun hm => ⟨_, hm, by simp [eqFl]⟩
theorem inFl_i {s : Int} {ds : List D} (h : AllI ds) : inFl (.int s) ds = true ↔ .int s ∈ ds := by
  unfold inFl
  rw [List.any_eq_true]
  constructor
  · rintro ⟨y, hy, e⟩
    obtain ⟨t, rfl⟩ := h y hy
    have : t = s := by simpa [eqFl] using e
    rwa [← this]
  · exact fun hm => ⟨_, hm, by simp [eqFl]⟩
theorem AllI.app {a b : List D} (h : AllI a) (h2 : AllI b) : AllI (a ++ b) := fun d hd => (List.mem_append.mp hd).elim (h d) (h2 d)
theorem AllS.app {a b : List D} (h : AllS a) (h2 : AllS b) : AllS (a ++ b) := fun d hd => (List.mem_append.mp hd).elim (h d) (h2 d)
theorem AllI.one {i : Int} : AllI [.int i] := fun d hd => ⟨i, List.mem_singleton.mp hd⟩
theorem AllS.one {i : List Nat} : AllS [.str i] := fun d hd => ⟨i, List.mem_singleton.mp hd⟩
theorem addN_ok : ∀ {ts ns : List D}, AllI ts → AllI ns → (ns ++ ts).Nodup → addN ts ns = some (ns ++ ts)
  | [], ns, _, _, _ => by simp [addN]
  | t :: ts, ns, h1, h2, h3 => by
    obtain ⟨i, rfl⟩ := h1 t (List.mem_cons_self ..)
    have e : inFl (.int i) ns = false := by
      cases hh : inFl (.int i) ns with
      | false => rfl
      | true =>
        have := (inFl_i h2).mp hh
        exact absurd rfl ((List.nodup_append.mp h3).2.2 _ this _ (List.mem_cons_self ..))
    have e2 : ns ++ .int i :: ts = (ns ++ [.int i]) ++ ts := by simp
    rw [e2] at h3 ⊢
    simp only [addN, e]
    exact addN_ok (fun d hd => h1 d (List.mem_cons_of_mem _ hd)) (h2.app .one) h3
theorem addN_no : ∀ {ts ns zs : List D}, AllI ts → AllI ns → ns.Nodup → addN ts ns = some zs → zs = ns ++ ts ∧ (ns ++ ts).Nodup
  | [], ns, zs, _, _, h, e => by
    simp [addN] at e
    subst e
    simpa using h
  | t :: ts, ns, zs, h1, h2, h3, e => by
    obtain ⟨i, rfl⟩ := h1 t (List.mem_cons_self ..)
    cases hh : inFl (.int i) ns with
    | true => simp [addN, hh] at e
    | false =>
      simp [addN, hh] at e
      have hn : .int i ∉ ns := fun hm => by
        rw [(inFl_i h2).mpr hm] at hh
        cases hh
      have e2 : ns ++ .int i :: ts = (ns ++ [.int i]) ++ ts := by simp
      rw [e2]
      refine addN_no (fun d hd => h1 d (List.mem_cons_of_mem _ hd)) (h2.app .one) ?_ e
      rw [List.nodup_append]
      refine ⟨h3, by simp, fun a ha b hb => ?_⟩
      rw [List.mem_singleton.mp hb]
      exact fun z => hn (by rwa [← z])
theorem told_i {rs : List D} (h : ∀ r ∈ rs, isR r = true) : AllI (told rs) := fun t ht => by
  obtain ⟨r, hr, e⟩ := List.mem_filterMap.mp ht
  rcases isR_cases (h r hr) with ⟨n, ns, rfl, _⟩ | ⟨a, b, ns, rfl, _⟩
  · simp [numO] at e
    exact ⟨_, e.symm⟩
  · simp [numO, n56] at e
theorem many_nn {rs : List D} : 0 ≤ many rs := by
  unfold many
  induction rs with
  | nil => simp
  | cons r rs ih =>
    rw [List.map_cons, List.sum_cons]
    omega
/-- readers of an account -/
def rdr (a : D) : Int := (rsOf a).length - (told (rsOf a)).length
theorem rdr_nn {a : D} : 0 ≤ rdr a := by
  have : (told (rsOf a)).length ≤ (rsOf a).length := List.length_filterMap_le ..
  unfold rdr
  omega
def mnySum (as : List D) : Int := (as.map fun a => many (rsOf a)).sum
def rdrSum (as : List D) : Int := (as.map rdr).sum
theorem mnySum_nn : ∀ {as : List D}, 0 ≤ mnySum as
  | [] => by simp [mnySum]
  | a :: as => by
    have h1 := mnySum_nn (as := as)
    have h2 := many_nn (rs := rsOf a)
    unfold mnySum at *
    rw [List.map_cons, List.sum_cons]
    omega
theorem rdrSum_nn : ∀ {as : List D}, 0 ≤ rdrSum as
  | [] => by simp [rdrSum]
  | a :: as => by
    have h1 := rdrSum_nn (as := as)
    have h2 := rdr_nn (a := a)
    unfold rdrSum at *
    rw [List.map_cons, List.sum_cons]
    omega
theorem mnySum_c {a : D} {as : List D} : mnySum (a :: as) = many (rsOf a) + mnySum as := by simp [mnySum]
theorem rdrSum_c {a : D} {as : List D} : rdrSum (a :: as) = rdr a + rdrSum as := by simp [rdrSum]
def nums (as : List D) : List D := (as.map fun a => told (rsOf a)).flatten
theorem nums_c {a : D} {as : List D} : nums (a :: as) = told (rsOf a) ++ nums as := by simp [nums]
structure Acs (as : List D) : Prop where
  len : as.length ≤ 6
  ac : ∀ a ∈ as, isAc a = true
  nms : (as.map nmOf).Nodup
  nus : (nums as).Nodup
  mny : mnySum as ≤ 60
  rds : rdrSum as ≤ 5
theorem fw_ok : ∀ {as : List D} {i : Nat} {names ns : List D} {m r : Int}, AllS names → AllI ns → i + as.length ≤ 6 → (∀ a ∈ as, isAc a = true) → (names ++ as.map nmOf).Nodup → (ns ++ nums as).Nodup → m + mnySum as ≤ 60 → r + rdrSum as ≤ 5 → fw as i names ns m r = none
  | [], _, _, _, _, _, _, _, _, _, _, _, _, _ => by simp [fw]
  | a :: as, i, names, ns, m, r, hs, hi, h1, h2, h3, h4, h5, h6 => by
    have hA := h2 a (List.mem_cons_self ..)
    obtain ⟨n, rs, rfl, hn, hr1, hr2, hr⟩ := isAc_tup hA
    rw [List.length_cons] at h1
    have hnm : nmOf (.tup [.str n, .tup rs]) = .str n := rfl
    have hrs : rsOf (.tup [.str n, .tup rs]) = rs := rfl
    have hrd : rdr (.tup [.str n, .tup rs]) = rs.length - (told rs).length := rfl
    have hin : inFl (.str n) names = false := by
      cases hh : inFl (.str n) names with
      | false => rfl
      | true =>
        have := (inFl_s hs).mp hh
        exact absurd rfl ((List.nodup_append.mp h3).2.2 _ this _ (List.mem_cons_self ..))
    rw [mnySum_c, hrs] at h5
    rw [rdrSum_c, hrd] at h6
    have q1 := mnySum_nn (as := as)
    have q2 := rdrSum_nn (as := as)
    rw [nums_c, hrs, ← List.append_assoc] at h4
    have e1 : addN (told rs) ns = some (ns ++ told rs) := addN_ok (told_i hr) hi (List.nodup_append.mp h4).1
    have i6 : ¬ i = 6 := by omega
    have c1 : ¬ 60 < m + many rs := by omega
    have c2 : ¬ 5 < r + ((rs.length : Int) - (told rs).length) := by omega
    have e : st1 (.tup [.str n, .tup rs]) i names ns m r = some (ns ++ told rs, m + many rs, r + (rs.length - (told rs).length)) := by
      simp [st1, hnm, hrs, hA, hin, i6, c1, c2, e1]
    simp only [fw, e]
    refine fw_ok (hs.app .one) (hi.app (told_i hr)) (by omega) (fun a h => h2 a (List.mem_cons_of_mem _ h)) ?_ h4 (by omega) (by omega)
    rw [List.append_assoc]
    exact h3
theorem fw_no : ∀ {as : List D} {i : Nat} {names ns : List D} {m r : Int}, AllS names → AllI ns → i ≤ 6 → names.Nodup → ns.Nodup → m ≤ 60 → r ≤ 5 → fw as i names ns m r = none →
    i + as.length ≤ 6 ∧ (∀ a ∈ as, isAc a = true) ∧ (names ++ as.map nmOf).Nodup ∧ (ns ++ nums as).Nodup ∧ m + mnySum as ≤ 60 ∧ r + rdrSum as ≤ 5
  | [], i, names, ns, m, r, hs, hi, h6, n1, n2, m1, r1, _ => by
    simp [nums, mnySum, rdrSum]
    exact ⟨h6, n1, n2, m1, r1⟩
  | a :: as, i, names, ns, m, r, hs, hi, h6, n1, n2, m1, r1, h => by
    cases e : st1 a i names ns m r with
    | none => simp [fw, e] at h
    | some q =>
      obtain ⟨ns', m', r'⟩ := q
      simp only [fw, e] at h
      by_cases c1 : i = 6 ∨ isAc a = false ∨ inFl (nmOf a) names = true
      · simp [st1, c1] at e
      · by_cases c2 : 60 < m + many (rsOf a) ∨ 5 < r + ((rsOf a).length - (told (rsOf a)).length)
        · simp only [st1, if_neg c1, if_pos c2] at e
          cases e
        · simp only [st1, if_neg c1, if_neg c2] at e
          obtain ⟨zs, e1, e2⟩ := map_some e
          cases e2
          have hA : isAc a = true := by
            cases hh : isAc a with
            | true => rfl
            | false => exact absurd (.inr (.inl hh)) c1
          obtain ⟨n, rs, rfl, hn, hr1, hr2, hr⟩ := isAc_tup hA
          have hnm : nmOf (.tup [.str n, .tup rs]) = .str n := rfl
          have hrs : rsOf (.tup [.str n, .tup rs]) = rs := rfl
          have hrd : rdr (.tup [.str n, .tup rs]) = rs.length - (told rs).length := rfl
          rw [hrs] at e1 c2 h
          rw [hnm] at c1 h
          obtain ⟨rfl, hnd⟩ := addN_no (told_i hr) hi n2 e1
          have hns : D.str n ∉ names := fun hm => c1 (.inr (.inr ((inFl_s hs).mpr hm)))
          have hn1 : (names ++ [D.str n]).Nodup := by
            rw [List.nodup_append]
            refine ⟨n1, by simp, fun a ha b hb => ?_⟩
            rw [List.mem_singleton.mp hb]
            exact fun z => hns (by rwa [← z])
          obtain ⟨a1, a2, a3, a4, a5, a6⟩ := fw_no (hs.app .one) (hi.app (told_i hr)) (by omega) hn1 hnd (by omega) (by omega) h
          refine ⟨by rw [List.length_cons]; omega, ?_, ?_, ?_, ?_, ?_⟩
          · intro x hx
            rcases List.mem_cons.mp hx with rfl | hx
            · exact hA
            · exact a2 x hx
          · rw [List.append_assoc] at a3
            exact a3
          · rw [nums_c, hrs, ← List.append_assoc]
            exact a4
          · rw [mnySum_c, hrs]
            omega
          · rw [rdrSum_c, hrd]
            omega
theorem isAs_ok {as : List D} (h : Acs as) : isAs (.tup as) = true := by
  have : fw as 0 [] [] 0 0 = none := fw_ok (fun _ h => absurd h (by simp)) (fun _ h => absurd h (by simp)) (by have := h.len; omega) h.ac h.nms h.nus (by have := h.mny; omega) (by have := h.rds; omega)
  simp [isAs, this]
theorem isAs_acs {as : List D} (h : isAs (.tup as) = true) : Acs as := by
  have : fw as 0 [] [] 0 0 = none := by simpa [isAs] using h
  obtain ⟨a1, a2, a3, a4, a5, a6⟩ := fw_no (fun _ h => absurd h (by simp)) (fun _ h => absurd h (by simp)) (by omega) .nil .nil (by omega) (by omega) this
  exact ⟨by omega, a2, a3, a4, by omega, by omega⟩
theorem isAs_no {as : List D} (h : ¬ Acs as) : isAs (.tup as) = false := by
  cases hh : isAs (.tup as) with
  | false => rfl
  | true => exact absurd (isAs_acs hh) h
end Lwk11
set_option Elab.async false
set_option linter.all false
set_option maxRecDepth 100000
set_option maxHeartbeats 2000000
namespace Lwk11
open PySem L2 Mi
def swp (ds : List D) (k : Nat) (x : D) : List D := ds.take k ++ x :: ds.drop (k + 1)
@[simp] theorem k_swap {ds : List D} {k : Nat} {x : D} {p : Fr → List Sl → Prop} (h : ds.length ≤ 1000) : Fok F_law_swap [.v (.tup ds), .v (.int (k : Nat)), .v x] p ↔ p (.dat (.tup (swp ds k x))) [.v (.tup ds), .v (.int (k : Nat)), .v x] := by
  refine fok_eq (eq_fok (fok_run rfl rfl ?_))
  have a1 : addD (.tup (ds.take k)) (.tup [x]) = some (.tup (ds.take k ++ [x])) := add_tt (by rw [List.length_take, List.length_singleton]; omega)
  have a2 : addD (.tup (ds.take k ++ [x])) (.tup (ds.drop (k + 1))) = some (.tup (swp ds k x)) := by
    rw [add_tt (by rw [List.length_append, List.length_take, List.length_singleton, List.length_drop]; omega), swp]
    simp
  simp [b_law_swap, a1, a2]
structure NmOk (ns : List (List Nat)) : Prop where
  len : ns.length = 6
  ky : ∀ k ∈ ns, isK (.str k) = true
  nd : ns.Nodup
theorem KsOk.nm {ks : List (List Nat)} (h : KsOk 6 ks) : NmOk ks := ⟨h.len, h.ky, h.asc.imp fun {a b} h e => by
  subst e
  rw [lt_irr] at h
  cases h⟩
theorem NmOk.rev {ks : List (List Nat)} (h : NmOk ks) : NmOk ks.reverse := ⟨by rw [List.length_reverse, h.len], fun k hk => h.ky k (List.mem_reverse.mp hk), List.pairwise_reverse.mpr (h.nd.imp fun h => Ne.symm h)⟩
theorem stp_names {ks : List (List Nat)} {k : Int} (h : NmOk ks) (hk : k = 1 ∨ k = -1) : ∃ ns, stpD (.lst (ks.map .str)) (.int k) = some (.lst (ns.map .str)) ∧ NmOk ns := by
  have hl := h.len
  match ks, hl with
  | [a, b, c, d, e, f], _ =>
    have i1 : lsIx 6 1 = [0, 1, 2, 3, 4, 5] := by decide
    have i2 : lsIx 6 (-1) = [5, 4, 3, 2, 1, 0] := by decide
    rcases hk with rfl | rfl
    · exact ⟨_, by simp [stpD, pickD, i1], h⟩
    · refine ⟨_, ?_, h.rev⟩
      simp [stpD, pickD, i2]
/-- the numbers of transactions -/
def nu (base : Int) (j : Nat) : D := .int (1 + (base + 7919 * j).fmod 999999)
theorem nu_inj {base : Int} {i j : Nat} (h : i < j) (hj : j < 100) : nu base i ≠ nu base j := by
  intro e
  have e1 : 1 + (base + 7919 * (i : Int)).fmod 999999 = 1 + (base + 7919 * (j : Int)).fmod 999999 := by
    simpa [nu] using e
  rw [Int.fmod_eq_emod_of_nonneg _ (by omega), Int.fmod_eq_emod_of_nonneg _ (by omega)] at e1
  omega
theorem nu_num {base : Int} {j : Nat} : isNum (nu base j) = true := by
  obtain ⟨q1, q2⟩ := fmod_in (a := base + 7919 * (j : Int)) (b := 999999) (by omega)
  simp [nu, isNum]
  omega
theorem nu_nd {base : Int} {js : List Nat} (h : js.Pairwise (· < ·)) (hj : ∀ j ∈ js, j < 100) : (js.map (nu base)).Nodup := by
  rw [List.Nodup, List.pairwise_map]
  exact h.imp_of_mem fun {a b} ha hb hab => nu_inj hab (hj b hb)
theorem many_app {a b : List D} : many (a ++ b) = many a + many b := by simp [many]
theorem told_app {a b : List D} : told (a ++ b) = told a ++ told b := by simp [told]
theorem mkRun_R {num : Option Int} {a b : Int} {n : Nat} {ns : List D} (h : NsOk n ns) (hn : n ≤ 1000) (ha : 0 ≤ a) (ha2 : a < 1000000) (hb : 0 ≤ b) (hb2 : b < 1000000) (hnum : ∀ i, num = some i → isNum (.int i) = true) : isR (mkRun num a b ns) = true ∧ tame (mkRun num a b ns) = true ∧ ntsOf (mkRun num a b ns) = ns := by
  have ht := h.tame hn
  have e1 : isBelow (.int a) 1000000 = true := by simp [isBelow]; omega
  have e2 : isBelow (.int b) 1000000 = true := by simp [isBelow]; omega
  cases num with
  | none =>
    refine ⟨by simp [mkRun, isR, n56, e1, e2, h.are], by simp [mkRun, tame_t (b := [_, _, _, _]), tm_s5, ht], rfl⟩
  | some i => exact ⟨by simp [mkRun, isR, hnum i rfl, h.are], by simp [mkRun, tame_t (b := [_, _, _]), tm_s6, ht], rfl⟩
end Lwk11
set_option Elab.async false
set_option linter.all false
set_option maxRecDepth 100000
set_option maxHeartbeats 2000000
namespace Lwk11
open PySem L2 Mi
def iaT : Ss := (.cons (.asg 4 (.op .add (.var 4) (.bi .int (.cons (.var 9) .nil)))) (.cons (.asg 10 (.ite (.var 9) (.con .non) (.op .add (.con (.int 1)) (.op .mod (.bi .int (.cons (.op .add (.var 5) (.op .mul (.con (.int 7919)) (.op .add (.op .mul (.con (.int 3)) (.var 6)) (.var 8)))) .nil)) (.con (.int 999999)))))) (.cons (.expr (.app 7 (.call F_law_run (.cons (.var 0) (.cons (.var 10) (.cons (.call F_law_pick (.cons (.var 0) (.cons (.lst (.cons (.con (.int 0)) (.cons (.con (.int 1)) (.cons (.con (.int 2)) (.cons (.con (.int 3)) .nil))))) .nil)) .nil) .nil))) .nil))) .nil)))
def iaB : Ss := .cons (.asg 9 (.and (.cmp .lt (.var 4) (.con (.int 5))) (.cmp .eq (.call F_law_draw (.cons (.var 0) (.cons (.con (.int 3)) .nil)) .nil) (.con (.int 0))))) iaT
theorem iaT_ok {n : Nat} {pen : List D} {x1 x2 x3 x10 : Sl} {rd base : Int} {at_ k : Nat} {runs : List D} {b : Bool} {Q : Fl → En → Prop} (hp : PenOk n pen) (hn : n + 10001 ≤ lim) (hl : runs.length ≤ 1000)
    (kk : ∀ pen' run x10, PenOk (n + 10001) pen' → isR run = true → tame run = true → (ntsOf run).length ≤ 3 → numO run = (if b then none else some (nu base (3 * at_ + k))) →
      Q .nx [.own true (.lst pen'), x1, x2, x3, .v (.int (rd + if b then 1 else 0)), .v (.int base), .v (.int (at_ : Nat)), .own false (.lst (runs ++ [run])), .v (.int (k : Nat)), .v (.bl b), x10]) :
    Okv iaT.ms [.own true (.lst pen), x1, x2, x3, .v (.int rd), .v (.int base), .v (.int (at_ : Nat)), .own false (.lst runs), .v (.int (k : Nat)), .v (.bl b), x10] Q := by
  have m1 : mulD (.int 3) (.int (at_ : Nat)) = some (.int (3 * (at_ : Int))) := mul_ii (by omega)
  have m2 : ∀ x, mulD (.int 7919) (.int x) = some (.int (7919 * x)) := fun x => mul_ii (by omega)
  have m3 : ∀ x, modD (.int x) (.int 999999) = some (.int (x.fmod 999999)) := fun x => mod_ii (by omega)
  have hlk : runs.length < sizeLine := line_lt (by omega)
  have pk : ∀ {m : D}, m ∈ [D.int 0, .int 1, .int 2, .int 3] → ∃ j : Nat, m = .int (j : Int) ∧ j ≤ 3 := fun {m} hm => by
    simp at hm
    rcases hm with rfl | rfl | rfl | rfl
    · exact ⟨0, rfl, by decide⟩
    · exact ⟨1, rfl, by decide⟩
    · exact ⟨2, rfl, by decide⟩
    · exact ⟨3, rfl, by decide⟩
  cases b with
  | true =>
    simp [iaT]
    refine t_pick_l hp (by omega) (by simp) (by simp) fun pen1 m hp1 hm => ?_
    obtain ⟨m, rfl, hm3⟩ := pk hm
    simp
    refine t_run (num := none) hp1 (by omega) (by omega) fun pen2 a b ns hp2 hns a0 a1 b0 b1 => ?_
    obtain ⟨h1, h2, h3⟩ := mkRun_R (num := none) hns (by omega) a0 a1 b0 b1 (fun i h => nomatch h)
    simp [numD, hlk]
    exact kk pen2 _ _ (hp2.mono (by omega)) h1 h2 (by rw [h3, hns.len]; exact hm3) (by simp [mkRun, numO, n56])
  | false =>
    simp [iaT, m1, m2, m3]
    refine t_pick_l hp (by omega) (by simp) (by simp) fun pen1 m hp1 hm => ?_
    obtain ⟨m, rfl, hm3⟩ := pk hm
    simp
    refine t_run (num := some (1 + (base + 7919 * (3 * (at_ : Int) + k)).fmod 999999)) hp1 (by omega) (by omega) fun pen2 a b ns hp2 hns a0 a1 b0 b1 => ?_
    have hnu : nu base (3 * at_ + k) = .int (1 + (base + 7919 * (3 * (at_ : Int) + k)).fmod 999999) := by simp [nu]
    obtain ⟨h1, h2, h3⟩ := mkRun_R (num := some (1 + (base + 7919 * (3 * (at_ : Int) + k)).fmod 999999)) hns (by omega) a0 a1 b0 b1 (fun i h => by cases h; rw [← hnu]; exact nu_num)
    simp [numD, hlk]
    have e0 : rd = rd + if false = true then 1 else 0 := by simp
    have := kk pen2 _ (.v (.int (1 + (base + 7919 * (3 * (at_ : Int) + k)).fmod 999999))) (hp2.mono (by omega)) h1 h2 (by rw [h3, hns.len]; exact hm3) (by simp [mkRun, numO, hnu])
    simpa using this
structure RnOk (base : Int) (lo hi : Nat) (rs : List D) : Prop where
  ok : ∀ r ∈ rs, isR r = true ∧ tame r = true
  tl : ∃ js : List Nat, told rs = js.map (nu base) ∧ js.Pairwise (· < ·) ∧ ∀ j ∈ js, lo ≤ j ∧ j < hi
theorem RnOk.nil {base : Int} {lo hi : Nat} : RnOk base lo hi [] := ⟨by simp, [], rfl, .nil, by simp⟩
theorem RnOk.add {base : Int} {lo hi : Nat} {rs : List D} {run : D} (h : RnOk base lo hi rs) (hl : lo ≤ hi) (h1 : isR run = true) (h2 : tame run = true) {b : Bool} (h3 : numO run = if b then none else some (nu base hi)) : RnOk base lo (hi + 1) (rs ++ [run]) := by
  obtain ⟨js, e1, e2, e3⟩ := h.tl
  refine ⟨fun r hr => ?_, ?_⟩
  · rcases List.mem_append.mp hr with h' | h'
    · exact h.ok r h'
    · rw [List.mem_singleton.mp h']
      exact ⟨h1, h2⟩
  · cases b with
    | true =>
      refine ⟨js, by rw [told_app, e1]; simp [told, h3], e2, fun j hj => ?_⟩
      have := e3 j hj
      omega
    | false =>
      refine ⟨js ++ [hi], by rw [told_app, e1]; simp [told, h3], ?_, fun j hj => ?_⟩
      · rw [List.pairwise_append]
        refine ⟨e2, List.pairwise_singleton .., fun x hx y hy => ?_⟩
        rw [List.mem_singleton.mp hy]
        exact (e3 x hx).2
      · rcases List.mem_append.mp hj with h' | h'
        · have := e3 j h'
          omega
        · rw [List.mem_singleton.mp h']
          omega
theorem many_one {r : D} : many [r] = (ntsOf r).length := by simp [many]
theorem told_len {rs : List D} {r : D} {b : Bool} {base : Int} {j : Nat} (h : numO r = if b then none else some (nu base j)) : ((told (rs ++ [r])).length : Int) = (told rs).length + if b then 0 else 1 := by
  rw [told_app]
  cases b <;> simp [told, h]
/-- the inner loop -/
theorem ia_loop {n : Nat} {pen : List D} {x1 x2 x3 x8 x9 x10 : Sl} {rd0 base : Int} {at_ K : Nat} {Q : Fl → En → Prop} (hp : PenOk n pen) (hK : K ≤ 3) (hn : n + 40000 ≤ lim) (h5 : rd0 ≤ 5)
    (kk : ∀ pen' runs rd x8 x9 x10, PenOk (n + 40000) pen' → runs.length = K → RnOk base (3 * at_) (3 * at_ + K) runs → many runs ≤ 3 * K → rd = rd0 + (runs.length - (told runs).length) → rd ≤ 5 →
      Q .nx [.own true (.lst pen'), x1, x2, x3, .v (.int rd), .v (.int base), .v (.int (at_ : Nat)), .own false (.lst runs), x8, x9, x10]) :
    Okv (forL (.nm 8) iaB.ms (rngD 0 K)) [.own true (.lst pen), x1, x2, x3, .v (.int rd0), .v (.int base), .v (.int (at_ : Nat)), .own false (.lst []), x8, x9, x10] Q := by
  obtain ⟨P, hP⟩ : ∃ P : List D → En → Prop, ∀ rs ρ, P rs ρ ↔ (∃ (k m : Nat) (pen runs : List D) (rd : Int) (x8 x9 x10 : Sl), rs = rngD (k : Nat) m ∧ k + m = K ∧ runs.length = k ∧ PenOk (n + 10010 * k) pen ∧ RnOk base (3 * at_) (3 * at_ + k) runs ∧ many runs ≤ 3 * k ∧ rd = rd0 + (runs.length - (told runs).length) ∧ rd ≤ 5 ∧
    ρ = [.own true (.lst pen), x1, x2, x3, .v (.int rd), .v (.int base), .v (.int (at_ : Nat)), .own false (.lst runs), x8, x9, x10]) := ⟨_, fun _ _ => Iff.rfl⟩
  refine for_inv P ?_ ?_ ?_
  · exact (hP _ _).mpr ⟨0, K, pen, [], rd0, x8, x9, x10, rfl, by omega, rfl, hp, .nil, by simp [many], by simp [told], h5, rfl⟩
  · intro d ds ρ h
    obtain ⟨k, m, pen, runs, rd, x8, x9, x10, e1, e2, e3, hp, hr, hm, hrd, hrd5, rfl⟩ := (hP _ _).mp h
    obtain ⟨m, rfl, rfl, rfl⟩ := rngD_cons e1.symm
    have fin : ∀ (b : Bool) (pen : List D), PenOk (n + 10010 * k + 1) pen → (rd + if b then 1 else 0) ≤ 5 → Okv iaT.ms [.own true (.lst pen), x1, x2, x3, .v (.int rd), .v (.int base), .v (.int (at_ : Nat)), .own false (.lst runs), .v (.int (k : Nat)), .v (.bl b), x10] fun fl ρ2 => (fl = Fl.nx ∨ fl = Fl.ct) ∧ P (rngD ((k : Int) + 1) m) ρ2 := by
      intro b pen hp hb
      refine iaT_ok hp (by omega) (by omega) fun pen' run x10 hp' q1 q2 q3 q4 => ⟨.inl rfl, (hP _ _).mpr ⟨k + 1, m, pen', runs ++ [run], _, _, _, _, rfl, by omega, by rw [List.length_append, e3]; rfl, hp'.mono (by omega), hr.add (by omega) q1 q2 q4, ?_, ?_, hb, rfl⟩⟩
      · rw [many_app, many_one]
        omega
      · rw [told_len q4, List.length_append, List.length_singleton]
        cases b <;> simp <;> omega
    by_cases c5 : rd < 5
    · simp [iaB, c5]
      refine t_draw hp (by omega) (by omega) (by omega) fun pen2 w hp2 w0 w1 => ?_
      simp
      by_cases e0 : w = 0
      · subst e0
        exact fin _ _ hp2 (by simp; omega)
      · have f0 : (w == 0) = false := eqc e0
        rw [f0]
        exact fin _ _ hp2 (by simp; omega)
    · simp [iaB, c5]
      exact fin _ _ (hp.mono (by omega)) (by simp; omega)
  · intro ρ h
    obtain ⟨k, m, pen, runs, rd, x8, x9, x10, e1, e2, e3, hp, hr, hm, hrd, hrd5, rfl⟩ := (hP _ _).mp h
    have hm0 : m = 0 := by
      cases m with
      | zero => rfl
      | succ m => rw [rngD_s] at e1; cases e1
    subst hm0
    have : k = K := by omega
    subst this
    exact kk _ _ _ _ _ _ (hp.mono (by omega)) e3 hr hm hrd hrd5
end Lwk11
set_option Elab.async false
set_option linter.all false
set_option maxRecDepth 100000
set_option maxHeartbeats 2000000
namespace Lwk11
open PySem L2 Mi
structure AcsOk (names : List (List Nat)) (base : Int) (as : List D) (rd : Int) : Prop where
  ac : ∀ a ∈ as, isAc a = true ∧ tame a = true
  nms : as.map nmOf = (names.take as.length).map .str
  nu : ∃ js : List Nat, nums as = js.map (nu base) ∧ js.Pairwise (· < ·) ∧ ∀ j ∈ js, j < 3 * as.length
  mny : mnySum as ≤ 9 * as.length
  rds : rdrSum as = rd
theorem mnySum_app {a b : List D} : mnySum (a ++ b) = mnySum a + mnySum b := by simp [mnySum]
theorem rdrSum_app {a b : List D} : rdrSum (a ++ b) = rdrSum a + rdrSum b := by simp [rdrSum]
theorem nums_app {a b : List D} : nums (a ++ b) = nums a ++ nums b := by simp [nums]
theorem take_snoc {α : Type} {xs : List α} {k : Nat} {x : α} (h : xs[k]? = some x) : xs.take (k + 1) = xs.take k ++ [x] := by
  rw [List.take_add_one, h]
  rfl
theorem nd_names {names : List (List Nat)} {k : Nat} (h : NmOk names) : ((names.take k).map D.str).Nodup := by
  rw [List.Nodup, List.pairwise_map]
  have : (names.take k).Nodup := h.nd.sublist (List.take_sublist ..)
  exact this.imp fun {a b} h e => h (by cases e; rfl)
theorem AcsOk.acs {names : List (List Nat)} {base : Int} {as : List D} {rd : Int} (h : AcsOk names base as rd) (hn : NmOk names) (hl : as.length ≤ 6) (hr : rd ≤ 5) : Acs as := by
  obtain ⟨js, e1, e2, e3⟩ := h.nu
  refine ⟨hl, fun a ha => (h.ac a ha).1, by rw [h.nms]; exact nd_names hn, ?_, ?_, by rw [h.rds]; exact hr⟩
  · rw [e1]
    exact nu_nd e2 fun j hj => by
      have := e3 j hj
      omega
  · have := h.mny
    omega
theorem AcsOk.add {names : List (List Nat)} {base : Int} {as runs : List D} {rd rd' : Int} {K : Nat} {nm : List Nat} (h : AcsOk names base as rd) (hn : NmOk names) (e : names[as.length]? = some nm) (hK1 : 1 ≤ K) (hK : K ≤ 3) (hl : runs.length = K) (hr : RnOk base (3 * as.length) (3 * as.length + K) runs) (hm : many runs ≤ 3 * K) (hrd : rd' = rd + (runs.length - (told runs).length)) : AcsOk names base (as ++ [.tup [.str nm, .tup runs]]) rd' := by
  obtain ⟨js, e1, e2, e3⟩ := h.nu
  obtain ⟨is, f1, f2, f3⟩ := hr.tl
  have hk : isK (.str nm) = true := hn.ky _ (List.mem_of_getElem? e)
  have hla : (as ++ [D.tup [.str nm, .tup runs]]).length = as.length + 1 := by simp
  have hrs : rsOf (.tup [.str nm, .tup runs]) = runs := rfl
  refine ⟨fun a ha => ?_, ?_, ⟨js ++ is, ?_, ?_, ?_⟩, ?_, ?_⟩
  · rcases List.mem_append.mp ha with h' | h'
    · exact h.ac a h'
    · rw [List.mem_singleton.mp h']
      have t1 : tame (.tup runs) = true := by
        rw [tame_t, Bool.and_eq_true, decide_eq_true_eq, tames_iff]
        exact ⟨by omega, fun r hr' => (hr.ok r hr').2⟩
      refine ⟨?_, by rw [tame_t]; simp [t1, ky_tame hk]⟩
      simp only [isAc, Bool.and_eq_true, decide_eq_true_eq, List.all_eq_true]
      exact ⟨⟨hk, by omega, by omega⟩, fun r hr' => (hr.ok r hr').1⟩
  · rw [List.map_append, h.nms, hla, take_snoc e, List.map_append]
    rfl
  · rw [nums_app, e1, List.map_append, ← f1]
    simp [nums, hrs]
  · rw [List.pairwise_append]
    refine ⟨e2, f2, fun x hx y hy => ?_⟩
    have := e3 x hx
    have := f3 y hy
    omega
  · intro j hj
    rw [hla]
    rcases List.mem_append.mp hj with h' | h'
    · have := e3 j h'
      omega
    · have := f3 j h'
      omega
  · rw [mnySum_app, hla]
    have := h.mny
    have e4 : mnySum [.tup [.str nm, .tup runs]] = many runs := by simp [mnySum, hrs]
    rw [e4]
    omega
  · rw [rdrSum_app, h.rds, hrd]
    simp [rdrSum, rdr, hrs]
theorem t_accounts {n : Nat} {pen : List D} {p : Fr → List Sl → Prop} (hp : PenOk n pen) (hn : n + 250000 ≤ lim) (k : ∀ pen' as, PenOk (n + 250000) pen' → Acs as → (∀ a ∈ as, tame a = true) → 1 ≤ as.length → p (.dat (.tup as)) [.own true (.lst pen'), .v (.int 1)]) :
    Fok F_law_accounts [.own true (.lst pen), .v (.int 1)] p := by
  refine fok_run rfl rfl ?_
  simp [b_law_accounts]
  refine t_keys (mny := 6) hp (by omega) (by omega) fun pen1 ks hp1 hks => ?_
  simp
  refine t_pick_l hp1 (by omega) (by simp) (by simp) fun pen2 st hp2 hst => ?_
  obtain ⟨st, rfl, hsk⟩ : ∃ i : Int, st = .int i ∧ (i = 1 ∨ i = -1) := by
    simp at hst
    rcases hst with rfl | rfl
    · exact ⟨_, rfl, .inl rfl⟩
    · exact ⟨_, rfl, .inr rfl⟩
  obtain ⟨names, hs1, hnm⟩ := stp_names hks.nm hsk
  simp [hs1]
  refine t_draw hp2 (by omega) (by omega) (by omega) fun pen3 base hp3 b0 b1 => ?_
  simp
  refine t_draw hp3 (by omega) (by omega) (by omega) fun pen4 w hp4 w0 w1 => ?_
  obtain ⟨N, hN, hN1, hN6⟩ : ∃ N : Nat, (if w > 1 then w else 1) = (N : Int) ∧ 1 ≤ N ∧ N ≤ 6 := by
    split
    · exact ⟨w.toNat, by omega, by omega, by omega⟩
    · exact ⟨1, rfl, by omega, by omega⟩
  simp [hN, rngK1_n (n := N) (by omega)]
  obtain ⟨P, hP⟩ : ∃ P : List D → En → Prop, ∀ rs ρ, P rs ρ ↔ (∃ (k m : Nat) (pen as : List D) (rd : Int) (x6 x7 x8 x9 x10 : Sl), rs = rngD (k : Nat) m ∧ k + m = N ∧ as.length = k ∧ PenOk (n + 300 + 40001 * k) pen ∧ AcsOk names base as rd ∧ rd ≤ 5 ∧
    ρ = [.own true (.lst pen), .v (.int 1), .v (.lst (names.map .str)), .own false (.lst as), .v (.int rd), .v (.int base), x6, x7, x8, x9, x10]) := ⟨_, fun _ _ => Iff.rfl⟩
  have fin : ∀ ρ, P [] ρ → ∃ pen as x4 x5 x6 x7 x8 x9 x10, PenOk (n + 250000) pen ∧ Acs as ∧ (∀ a ∈ as, tame a = true) ∧ 1 ≤ as.length ∧ ρ = [.own true (.lst pen), .v (.int 1), .v (.lst (names.map .str)), .own false (.lst as), x4, x5, x6, x7, x8, x9, x10] := fun ρ h => by
    obtain ⟨k, m, pen, as, rd, x6, x7, x8, x9, x10, e1, e2, e3, hp, ha, hrd, rfl⟩ := (hP _ _).mp h
    have hm0 : m = 0 := by
      cases m with
      | zero => rfl
      | succ m => rw [rngD_s] at e1; cases e1
    subst hm0
    exact ⟨_, _, _, _, _, _, _, _, _, hp.mono (by omega), ha.acs hnm (by omega) hrd, fun a h => (ha.ac a h).2, by omega, rfl⟩
  refine for_inv P ?_ ?_ ?_
  · exact (hP _ _).mpr ⟨0, N, pen4, [], 0, _, _, _, _, _, rfl, by omega, rfl, hp4.mono (by omega), ⟨by simp, by simp, ⟨[], rfl, .nil, by simp⟩, by simp [mnySum], by simp [rdrSum]⟩, by omega, rfl⟩
  · intro d ds ρ h
    obtain ⟨k, m, pen, as, rd, x6, x7, x8, x9, x10, e1, e2, e3, hp, ha, hrd, rfl⟩ := (hP _ _).mp h
    obtain ⟨m, rfl, rfl, rfl⟩ := rngD_cons e1.symm
    simp
    refine t_pick_l hp (by omega) (by simp) (by simp) fun pen2 K hp2 hK => ?_
    obtain ⟨K, rfl, hK1, hK3⟩ : ∃ j : Nat, K = .int (j : Int) ∧ 1 ≤ j ∧ j ≤ 3 := by
      simp at hK
      rcases hK with rfl | rfl | rfl
      · exact ⟨1, rfl, by decide, by decide⟩
      · exact ⟨2, rfl, by decide, by decide⟩
      · exact ⟨3, rfl, by decide, by decide⟩
    simp [rngK1_n (n := K) (by omega)]
    refine ia_loop (K := K) hp2 hK3 (by omega) hrd fun pen3 runs rd' x8 x9 x10 hp3 hl hr hm hrd' h5 => ?_
    have hnl := hnm.len
    have hname : atI (names.map D.str) (k : Int) = some (.str (names[k]'(by omega))) := by
      rw [atI_n]
      simp [show k < names.length by omega]
    have hlk : as.length < sizeLine := line_lt (by omega)
    simp [hname, hlk]
    refine (hP _ _).mpr ⟨k + 1, m, pen3, as ++ [.tup [.str (names[k]'(by omega)), .tup runs]], rd', _, _, _, _, _, rfl, by omega, by rw [List.length_append, e3]; rfl, hp3.mono (by omega), ?_, h5, rfl⟩
    subst e3
    exact ha.add hnm (by simp) hK1 hK3 hl hr hm hrd'
  · intro ρ h
    obtain ⟨pen, as, x4, x5, x6, x7, x8, x9, x10, hp, ha, ht, hl, rfl⟩ := fin ρ h
    simp
    exact k _ _ hp ha ht hl
end Lwk11
set_option Elab.async false
set_option linter.all false
set_option maxRecDepth 100000
set_option maxHeartbeats 2000000
namespace Lwk11
open PySem L2 Mi
/-- how many notes at k -/
def nk (heap : Option Int) (k : Nat) : Nat := match heap with
  | none => if k < 60 then 1 else 0
  | some h => if (k : Int) = h then 60 else 0
def cM (heap : Option Int) (k : Nat) : Nat := match heap with
  | none => min k 60
  | some h => if h < k then 60 else 0
theorem cM_s {heap : Option Int} {k : Nat} : cM heap (k + 1) = cM heap k + nk heap k := by
  cases heap with
  | none =>
    simp only [cM, nk]
    split <;> omega
  | some h =>
    simp only [cM, nk]
    split <;> split <;> split <;> omega
/-- is there a reader at k -/
def rk (skip : Int) (k : Nat) : Bool := decide (((k : Int) - skip).fmod 14 = 0) && decide (0 ≤ (k : Int) - skip ∧ (k : Int) - skip < 70)
theorem rk_t {skip : Int} {k : Nat} (h1 : ((k : Int) - skip).fmod 14 = 0) (h2 : skip ≤ k) (h3 : (k : Int) - skip < 70) : rk skip k = true := by
  have : 0 ≤ (k : Int) - skip ∧ (k : Int) - skip < 70 := by omega
  unfold rk
  rw [decide_eq_true h1, decide_eq_true this]
  rfl
theorem rk_f {skip : Int} {k : Nat} (h : ¬ (((k : Int) - skip).fmod 14 = 0 ∧ skip ≤ k ∧ (k : Int) - skip < 70)) : rk skip k = false := by
  cases hh : rk skip k with
  | false => rfl
  | true =>
    unfold rk at hh
    simp only [Bool.and_eq_true, decide_eq_true_eq] at hh
    exact absurd ⟨hh.1, by omega, hh.2.2⟩ h
def cR (skip : Int) (k : Nat) : Int := if (k : Int) ≤ skip then 0 else min 5 (((k : Int) - skip + 13) / 14)
theorem cR_s {skip : Int} {k : Nat} (h : 0 ≤ skip) : cR skip (k + 1) = cR skip k + if rk skip k then 1 else 0 := by
  unfold cR rk
  rw [Int.fmod_eq_emod_of_nonneg _ (by omega)]
  by_cases h1 : (k : Int) < skip
  · have : ¬ (0 ≤ (k : Int) - skip ∧ (k : Int) - skip < 70) := by omega
    rw [if_pos (by omega), if_pos (by omega), decide_eq_false this, Bool.and_false]
    rfl
  · by_cases h2 : ((k : Int) - skip) % 14 = 0
    · by_cases h3 : (k : Int) - skip < 70
      · have : 0 ≤ (k : Int) - skip ∧ (k : Int) - skip < 70 := by omega
        rw [decide_eq_true h2, decide_eq_true this]
        simp only [Bool.and_true, if_true]
        split <;> split <;> omega
      · have : ¬ (0 ≤ (k : Int) - skip ∧ (k : Int) - skip < 70) := by omega
        rw [decide_eq_false this, Bool.and_false]
        simp only [Bool.false_eq_true, if_false]
        split <;> split <;> omega
    · rw [decide_eq_false h2, Bool.false_and]
      simp only [Bool.false_eq_true, if_false]
      split <;> split <;> omega
def cn (k j : Nat) : D := .tup [.int ((k : Int) / 3 + (j : Int) / 2), .tup [.str s2], .int (((k : Int) + j) % 65)]
theorem cn_ok {k : Nat} (hk : k < 72) {M : Nat} (hM : M ≤ 100) : NsOk M ((List.range M).map (cn k)) := by
  refine ⟨by simp, fun v hv => ?_, ?_⟩
  · obtain ⟨j, hj, rfl⟩ := List.mem_map.mp hv
    rw [List.mem_range] at hj
    have e1 : isBelow (.int ((k : Int) / 3 + (j : Int) / 2)) 1000000 = true := by simp [isBelow]; omega
    have e2 : isBelow (.int (((k : Int) + j) % 65)) 65 = true := by simp [isBelow]; omega
    exact ⟨by simp [cn, isN, e1, isA_count e2], by simp [cn, tame_t (b := [_, _, _]), tame_t (b := [_]), tm_s2]⟩
  · rw [List.map_map, List.pairwise_map]
    refine List.Pairwise.imp ?_ (List.pairwise_lt_range (n := M))
    intro a b hab
    show (k : Int) / 3 + (a : Int) / 2 ≤ (k : Int) / 3 + (b : Int) / 2
    omega
def fuT : Ss := (.cons (.asg 10 (.bi .tuple (.cons (.lc (.rng1 (.cons (.var 9) .nil)) (.nm 11) [11] .no (.tup (.cons (.op .add (.op .fdiv (.var 8) (.con (.int 3))) (.op .fdiv (.var 11) (.con (.int 2)))) (.cons (.tup (.cons (.con (.str s2)) .nil)) (.cons (.op .mod (.bi .int (.cons (.op .add (.var 8) (.var 11)) .nil)) (.con (.int 65))) .nil))))) .nil))) (.cons (.asg 12 (.and (.cmp .eq (.op .mod (.bi .int (.cons (.op .sub (.var 8) (.var 3)) .nil)) (.con (.int 14))) (.con (.int 0))) (.chain .le .lt (.con (.int 0)) (.op .sub (.var 8) (.var 3)) (.con (.int 70))))) (.cons (.expr (.app 7 (.ite (.var 12) (.tup (.cons (.con (.str s5)) (.cons (.var 8) (.cons (.con (.int 7)) (.cons (.var 10) .nil))))) (.tup (.cons (.con (.str s6)) (.cons (.op .add (.con (.int 1)) (.op .mod (.bi .int (.cons (.op .add (.var 4) (.op .mul (.con (.int 7919)) (.var 8))) .nil)) (.con (.int 999999)))) (.cons (.var 10) .nil))))))) .nil)))
def fuB : Ss := (.cons (.asg 9 (.ite (.cmp .is (.var 5) (.con .non)) (.bi .int (.cons (.cmp .lt (.var 8) (.con (.int 60))) .nil)) (.op .mul (.con (.int 60)) (.bi .int (.cons (.cmp .eq (.var 8) (.var 5)) .nil))))) fuT)
theorem fuB_ok {x0 x1 x2 x6 x9 x10 x12 : Sl} {skip base : Int} {heap : Option Int} {k : Nat} {runs : List D} {Q : Fl → En → Prop} (hl : runs.length ≤ 1000) (hk : k < 72) (h0 : 0 ≤ skip)
    (kk : ∀ run x9 x10 x12, isR run = true → tame run = true → (ntsOf run).length = nk heap k → numO run = (if rk skip k then none else some (nu base k)) →
      Q .nx [x0, x1, x2, .v (.int skip), .v (.int base), .v (numD heap), x6, .own false (.lst (runs ++ [run])), .v (.int (k : Nat)), x9, x10, .no, x12]) :
    Okv fuB.ms [x0, x1, x2, .v (.int skip), .v (.int base), .v (numD heap), x6, .own false (.lst runs), .v (.int (k : Nat)), x9, x10, .no, x12] Q := by
  have m2 : ∀ x, mulD (.int 7919) (.int x) = some (.int (7919 * x)) := fun x => mul_ii (by omega)
  have m3 : ∀ x, modD (.int x) (.int 999999) = some (.int (x.fmod 999999)) := fun x => mod_ii (by omega)
  have m4 : ∀ x, modD (.int x) (.int 14) = some (.int (x.fmod 14)) := fun x => mod_ii (by omega)
  have m5 : ∀ x : Int, 0 ≤ x → modD (.int x) (.int 65) = some (.int (x % 65)) := fun x hx => by rw [mod_ii (by omega), Int.fmod_eq_emod_of_nonneg _ (by omega)]
  have m6 : ∀ x : Int, 0 ≤ x → fdivD (.int x) (.int 3) = some (.int (x / 3)) := fun x hx => by rw [fdiv_ii (by omega) (by omega), Int.fdiv_eq_ediv_of_nonneg _ (by omega)]
  have m7 : ∀ x : Int, 0 ≤ x → fdivD (.int x) (.int 2) = some (.int (x / 2)) := fun x hx => by rw [fdiv_ii (by omega) (by omega), Int.fdiv_eq_ediv_of_nonneg _ (by omega)]
  have m8 : ∀ x, mulD (.int 60) (.int x) = some (.int (60 * x)) := fun x => mul_ii (by omega)
  have hlk : runs.length < sizeLine := line_lt (by omega)
  have hM : nk heap k ≤ 60 := by
    unfold nk
    split <;> split <;> omega
  have hns := cn_ok hk (M := nk heap k) (by omega)
  have tail : ∀ x10 x12, Okv fuT.ms [x0, x1, x2, .v (.int skip), .v (.int base), .v (numD heap), x6, .own false (.lst runs), .v (.int (k : Nat)), .v (.int (nk heap k : Nat)), x10, .no, x12] Q := by
    intro x10 x12
    simp [fuT, rngK1_n (n := nk heap k) (by omega)]
    refine lc_map (fun d => match d with
      | .int j => .tup [.int ((k : Int) / 3 + j / 2), .tup [.str s2], .int (((k : Int) + j) % 65)]
      | _ => .non) (by simp) (line_le (by simp [rngD]; omega)) (fun d hd => ?_) ?_
    · obtain ⟨j, hj, rfl⟩ := List.mem_map.mp hd
      simp [m5 (k + (0 + j)) (by omega), m5 (k + j) (by omega), m6 k (by omega), m7 j (by omega), m7 (0 + j) (by omega)]
    · have e : (rngD 0 (nk heap k)).map (fun d => match d with
        | .int j => D.tup [.int ((k : Int) / 3 + j / 2), .tup [.str s2], .int (((k : Int) + j) % 65)]
        | _ => .non) = (List.range (nk heap k)).map (cn k) := by
        rw [rngD, List.map_map]
        refine List.map_congr_left fun j _ => ?_
        simp [cn]
      rw [e]
      generalize (List.range (nk heap k)).map (cn k) = ns at hns
      have tr : rk skip k = false → Q .nx [x0, x1, x2, .v (.int skip), .v (.int base), .v (numD heap), x6, .own false (.lst (runs ++ [.tup [.str s6, .int (1 + (base + 7919 * (k : Int)).fmod 999999), .tup ns]])), .v (.int (k : Nat)), .v (.int (nk heap k : Nat)), .v (.tup ns), .no, .v (.bl false)] := fun h => by
        obtain ⟨h1, h2, h3⟩ := mkRun_R (num := some (1 + (base + 7919 * (k : Int)).fmod 999999)) (a := 0) (b := 0) hns (by omega) (by omega) (by omega) (by omega) (by omega) (fun i h => by cases h; exact nu_num (base := base) (j := k))
        exact kk _ _ _ _ h1 h2 ((congrArg List.length h3).trans hns.len) (by rw [h]; rfl)
      have re : rk skip k = true → Q .nx [x0, x1, x2, .v (.int skip), .v (.int base), .v (numD heap), x6, .own false (.lst (runs ++ [.tup [.str s5, .int (k : Nat), .int 7, .tup ns]])), .v (.int (k : Nat)), .v (.int (nk heap k : Nat)), .v (.tup ns), .no, .v (.bl true)] := fun h => by
        obtain ⟨h1, h2, h3⟩ := mkRun_R (num := none) (a := k) (b := 7) hns (by omega) (by omega) (by omega) (by omega) (by omega) (fun i h => nomatch h)
        exact kk _ _ _ _ h1 h2 ((congrArg List.length h3).trans hns.len) (by rw [h]; rfl)
      by_cases c1 : ((k : Int) - skip).fmod 14 = 0
      · by_cases c2 : skip ≤ (k : Int)
        · by_cases c3 : (k : Int) - skip < 70
          · simp [m4, c1, c2, c3, hlk]
            exact re (rk_t c1 c2 c3)
          · simp [m4, c1, c2, c3, hlk, m2, m3]
            exact tr (rk_f fun h => c3 h.2.2)
        · simp [m4, c1, c2, hlk, m2, m3]
          exact tr (rk_f fun h => c2 h.2.1)
      · have f1 : (((k : Int) - skip).fmod 14 == 0) = false := eqc c1
        simp [m4, f1, hlk, m2, m3]
        exact tr (rk_f fun h => c1 h.1)
  cases heap with
  | none =>
    have : isNon .non = true := rfl
    have e : (if k < 60 then 1 else 0 : Int) = ((nk none k : Nat) : Int) := by
      simp only [nk]
      split <;> rfl
    have e2 : decide ((k : Int) < 60) = decide (k < 60) := by
      by_cases h : k < 60 <;> simp [h] <;> omega
    simp [fuB, numD, this, e2, e]
    exact tail _ _
  | some h =>
    have : isNon (.int h) = false := rfl
    have e : 60 * (if (k : Int) = h then 1 else 0 : Int) = ((nk (some h) k : Nat) : Int) := by
      simp only [nk]
      split <;> rfl
    simp [fuB, numD, this, m8, e]
    exact tail _ _
end Lwk11
set_option Elab.async false
set_option linter.all false
set_option maxRecDepth 100000
set_option maxHeartbeats 2000000
namespace Lwk11
open PySem L2 Mi
theorem fu_loop {x0 x1 x2 x8 x9 x10 x12 : Sl} {skip base : Int} {heap : Option Int} {at_ : Nat} {Q : Fl → En → Prop} (ha : at_ < 6) (h0 : 0 ≤ skip)
    (kk : ∀ runs x8 x9 x10 x12, runs.length = 12 → RnOk base (12 * at_) (12 * at_ + 12) runs → many runs = cM heap (12 * at_ + 12) - cM heap (12 * at_) → (runs.length : Int) - (told runs).length = cR skip (12 * at_ + 12) - cR skip (12 * at_) →
      Q .nx [x0, x1, x2, .v (.int skip), .v (.int base), .v (numD heap), .v (.int (at_ : Nat)), .own false (.lst runs), x8, x9, x10, .no, x12]) :
    Okv (forL (.nm 8) fuB.ms (rngD (12 * (at_ : Int)) 12)) [x0, x1, x2, .v (.int skip), .v (.int base), .v (numD heap), .v (.int (at_ : Nat)), .own false (.lst []), x8, x9, x10, .no, x12] Q := by
  obtain ⟨P, hP⟩ : ∃ P : List D → En → Prop, ∀ rs ρ, P rs ρ ↔ (∃ (j m : Nat) (runs : List D) (x8 x9 x10 x12 : Sl), rs = rngD (j : Nat) m ∧ j + m = 12 * at_ + 12 ∧ j = 12 * at_ + runs.length ∧ RnOk base (12 * at_) j runs ∧ many runs = cM heap j - cM heap (12 * at_) ∧ (runs.length : Int) - (told runs).length = cR skip j - cR skip (12 * at_) ∧
    ρ = [x0, x1, x2, .v (.int skip), .v (.int base), .v (numD heap), .v (.int (at_ : Nat)), .own false (.lst runs), x8, x9, x10, .no, x12]) := ⟨_, fun _ _ => Iff.rfl⟩
  refine for_inv P ?_ ?_ ?_
  · exact (hP _ _).mpr ⟨12 * at_, 12, [], _, _, _, _, by simp, by omega, by simp, .nil, by simp [many], by simp [told], rfl⟩
  · intro d ds ρ h
    obtain ⟨j, m, runs, x8, x9, x10, x12, e1, e2, e3, hr, hm, hrd, rfl⟩ := (hP _ _).mp h
    obtain ⟨m, rfl, rfl, rfl⟩ := rngD_cons e1.symm
    simp
    refine fuB_ok (by omega) (by omega) h0 fun run x9 x10 x12 q1 q2 q3 q4 => ⟨.inl rfl, (hP _ _).mpr ⟨j + 1, m, runs ++ [run], _, _, _, _, rfl, by omega, by rw [List.length_append, List.length_singleton]; omega, hr.add (by omega) q1 q2 q4, ?_, ?_, rfl⟩⟩
    · rw [many_app, many_one, cM_s, q3]
      omega
    · rw [told_len q4, List.length_append, List.length_singleton, cR_s h0]
      cases rk skip j <;> simp <;> omega
  · intro ρ h
    obtain ⟨j, m, runs, x8, x9, x10, x12, e1, e2, e3, hr, hm, hrd, rfl⟩ := (hP _ _).mp h
    have hm0 : m = 0 := by
      cases m with
      | zero => rfl
      | succ m => rw [rngD_s] at e1; cases e1
    subst hm0
    have : j = 12 * at_ + 12 := by omega
    subst this
    exact kk _ _ _ _ _ (by omega) hr hm hrd
structure Full (as : List D) : Prop where
  acs : Acs as
  tm : ∀ a ∈ as, tame a = true
  len : as.length = 6
  rl : ∀ a ∈ as, (rsOf a).length = 12
  mny : mnySum as = 60
  rds : rdrSum as = 5
structure FuOk (names : List (List Nat)) (base skip : Int) (heap : Option Int) (as : List D) : Prop where
  ac : ∀ a ∈ as, isAc a = true ∧ tame a = true ∧ (rsOf a).length = 12
  nms : as.map nmOf = (names.take as.length).map .str
  nu : ∃ js : List Nat, nums as = js.map (nu base) ∧ js.Pairwise (· < ·) ∧ ∀ j ∈ js, j < 12 * as.length
  mny : mnySum as = cM heap (12 * as.length)
  rds : rdrSum as = cR skip (12 * as.length)
theorem FuOk.full {names : List (List Nat)} {base skip : Int} {heap : Option Int} {as : List D} (h : FuOk names base skip heap as) (hn : NmOk names) (hl : as.length = 6) (h0 : 0 ≤ skip) (h1 : skip < 14) (hh : ∀ i, heap = some i → i < 72 ∧ 0 ≤ i) : Full as := by
  have hm : mnySum as = 60 := by
    rw [h.mny, hl]
    cases heap with
    | none => rfl
    | some i =>
      have := hh i rfl
      simp only [cM]
      rw [if_pos (by omega)]
      rfl
  have hr : rdrSum as = 5 := by
    rw [h.rds, hl, cR]
    rw [if_neg (by omega)]
    omega
  obtain ⟨js, e1, e2, e3⟩ := h.nu
  refine ⟨⟨by omega, fun a ha => (h.ac a ha).1, by rw [h.nms]; exact nd_names hn, ?_, by omega, by omega⟩, fun a ha => (h.ac a ha).2.1, hl, fun a ha => (h.ac a ha).2.2, hm, hr⟩
  rw [e1]
  exact nu_nd e2 fun j hj => by
    have := e3 j hj
    omega
theorem FuOk.add {names : List (List Nat)} {base skip : Int} {heap : Option Int} {as runs : List D} {nm : List Nat} (h : FuOk names base skip heap as) (hn : NmOk names) (e : names[as.length]? = some nm) (hl : runs.length = 12) (hr : RnOk base (12 * as.length) (12 * as.length + 12) runs) (hm : many runs = cM heap (12 * as.length + 12) - cM heap (12 * as.length)) (hrd : (runs.length : Int) - (told runs).length = cR skip (12 * as.length + 12) - cR skip (12 * as.length)) : FuOk names base skip heap (as ++ [.tup [.str nm, .tup runs]]) := by
  obtain ⟨js, e1, e2, e3⟩ := h.nu
  obtain ⟨is, f1, f2, f3⟩ := hr.tl
  have hk : isK (.str nm) = true := hn.ky _ (List.mem_of_getElem? e)
  have hla : (as ++ [D.tup [.str nm, .tup runs]]).length = as.length + 1 := by simp
  have hrs : rsOf (.tup [.str nm, .tup runs]) = runs := rfl
  refine ⟨fun a ha => ?_, ?_, ⟨js ++ is, ?_, ?_, ?_⟩, ?_, ?_⟩
  · rcases List.mem_append.mp ha with h' | h'
    · exact h.ac a h'
    · rw [List.mem_singleton.mp h']
      have t1 : tame (.tup runs) = true := by
        rw [tame_t, Bool.and_eq_true, decide_eq_true_eq, tames_iff]
        exact ⟨by omega, fun r hr' => (hr.ok r hr').2⟩
      refine ⟨?_, by rw [tame_t]; simp [t1, ky_tame hk], hl⟩
      simp only [isAc, Bool.and_eq_true, decide_eq_true_eq, List.all_eq_true]
      exact ⟨⟨hk, by omega, by omega⟩, fun r hr' => (hr.ok r hr').1⟩
  · rw [List.map_append, h.nms, hla, take_snoc e, List.map_append]
    rfl
  · rw [nums_app, e1, List.map_append, ← f1]
    simp [nums, hrs]
  · rw [List.pairwise_append]
    refine ⟨e2, f2, fun x hx y hy => ?_⟩
    have := e3 x hx
    have := f3 y hy
    omega
  · intro j hj
    rw [hla]
    rcases List.mem_append.mp hj with h' | h'
    · have := e3 j h'
      omega
    · have := f3 j h'
      omega
  · rw [mnySum_app, hla]
    have e4 : mnySum [.tup [.str nm, .tup runs]] = many runs := by simp [mnySum, hrs]
    rw [e4, h.mny, hm, Nat.mul_add, Nat.mul_one]
    omega
  · rw [rdrSum_app, h.rds, hla, Nat.mul_add, Nat.mul_one]
    have e5 : rdrSum [.tup [.str nm, .tup runs]] = (runs.length : Int) - (told runs).length := by simp [rdrSum, rdr, hrs]
    rw [e5, hrd]
    omega
theorem t_full {n : Nat} {pen : List D} {p : Fr → List Sl → Prop} (hp : PenOk n pen) (hn : n + 300 ≤ lim) (k : ∀ pen' as, PenOk (n + 300) pen' → Full as → p (.dat (.tup as)) [.own true (.lst pen')]) :
    Fok F_law_full [.own true (.lst pen)] p := by
  refine fok_run rfl rfl ?_
  simp [b_law_full]
  refine t_keys (mny := 6) hp (by omega) (by omega) fun pen1 ks hp1 hks => ?_
  simp
  refine t_draw hp1 (by omega) (by omega) (by omega) fun pen2 skip hp2 s0 s1 => ?_
  simp
  refine t_draw hp2 (by omega) (by omega) (by omega) fun pen3 base hp3 b0 b1 => ?_
  simp
  refine t_draw hp3 (by omega) (by omega) (by omega) fun pen4 w hp4 w0 w1 => ?_
  simp
  refine t_pick_l hp4 (by omega) (by simp) (by simp) fun pen5 hh hp5 hhh => ?_
  obtain ⟨heap, rfl, hheap⟩ : ∃ o : Option Int, hh = numD o ∧ ∀ i, o = some i → i < 72 ∧ 0 ≤ i := by
    simp at hhh
    rcases hhh with rfl | rfl
    · exact ⟨none, rfl, fun i h => nomatch h⟩
    · exact ⟨some w, rfl, fun i h => by cases h; exact ⟨w1, w0⟩⟩
  have r6 : rngK1 [.int 6] = some (rngD 0 6) := rngK1_n (n := 6) (by omega)
  simp [r6]
  obtain ⟨P, hP⟩ : ∃ P : List D → En → Prop, ∀ rs ρ, P rs ρ ↔ (∃ (k m : Nat) (as : List D) (x6 x7 x8 x9 x10 x12 : Sl), rs = rngD (k : Nat) m ∧ k + m = 6 ∧ as.length = k ∧ FuOk ks base skip heap as ∧
    ρ = [.own true (.lst pen5), .own false (.lst (ks.map .str)), .own false (.lst as), .v (.int skip), .v (.int base), .v (numD heap), x6, x7, x8, x9, x10, .no, x12]) := ⟨_, fun _ _ => Iff.rfl⟩
  have fin : ∀ ρ, P [] ρ → ∃ as x3 x4 x5 x6 x7 x8 x9 x10 x12, Full as ∧ ρ = [.own true (.lst pen5), .own false (.lst (ks.map .str)), .own false (.lst as), x3, x4, x5, x6, x7, x8, x9, x10, .no, x12] := fun ρ h => by
    obtain ⟨k, m, as, x6, x7, x8, x9, x10, x12, e1, e2, e3, ha, rfl⟩ := (hP _ _).mp h
    have hm0 : m = 0 := by
      cases m with
      | zero => rfl
      | succ m => rw [rngD_s] at e1; cases e1
    subst hm0
    exact ⟨_, _, _, _, _, _, _, _, _, _, ha.full hks.nm (by omega) s0 s1 hheap, rfl⟩
  refine for_inv P ?_ ?_ ?_
  · exact (hP _ _).mpr ⟨0, 6, [], _, _, _, _, _, _, rfl, by omega, rfl, ⟨by simp, by simp, ⟨[], rfl, .nil, by simp⟩, by cases heap with
      | none => rfl
      | some i => have := hheap i rfl; simp [mnySum, cM]; rw [if_neg (by omega)]; rfl, by simp [rdrSum, cR, s0]⟩, rfl⟩
  · intro d ds ρ h
    obtain ⟨k, m, as, x6, x7, x8, x9, x10, x12, e1, e2, e3, ha, rfl⟩ := (hP _ _).mp h
    obtain ⟨m, rfl, rfl, rfl⟩ := rngD_cons e1.symm
    have m12 : mulD (.int 12) (.int (k : Nat)) = some (.int (12 * (k : Int))) := mul_ii (by omega)
    have r12 : rngK2 [.int (12 * (k : Int)), .int (12 * (k : Int) + 12)] = some (rngD (12 * (k : Int)) 12) := rngK2_n (n := 12) (by omega) (by omega) (by omega)
    have hnl := hks.len
    have hname : atI (ks.map D.str) (k : Int) = some (.str (ks[k]'(by omega))) := by
      rw [atI_n]
      simp [show k < ks.length by omega]
    have hlk : as.length < sizeLine := line_lt (by omega)
    simp [m12, r12]
    refine fu_loop (at_ := k) (by omega) s0 fun runs x8 x9 x10 x12 hl hr hm hrd => ?_
    simp [hname, hlk]
    refine (hP _ _).mpr ⟨k + 1, m, as ++ [.tup [.str (ks[k]'(by omega)), .tup runs]], _, _, _, _, _, _, rfl, by omega, by rw [List.length_append, e3]; rfl, ?_, rfl⟩
    subst e3
    exact ha.add hks.nm (by simp) hl hr hm hrd
  · intro ρ h
    obtain ⟨as, x3, x4, x5, x6, x7, x8, x9, x10, x12, hf, rfl⟩ := fin ρ h
    simp
    exact k _ _ (hp5.mono (by omega)) hf
end Lwk11
set_option Elab.async false
set_option linter.all false
set_option maxRecDepth 100000
set_option maxHeartbeats 2000000
namespace Lwk11
open PySem L2 Mi
theorem upL_eq (s : List Nat) : upL s = s.flatMap Unicode.upperOf := by
  unfold upL Txt.upper placed
  simp only [Array.toList_flatten]
  have e : ∀ (f : Nat → List Nat) (s : List Nat), (s.mapIdx fun _ c => (f c).toArray).map Array.toList = s.map f := fun f s => by
    rw [List.mapIdx_eq_zipIdx_map, List.map_map]
    have : s.zipIdx.map (·.1) = s := by simp
    conv => rhs; rw [← this, List.map_map]
    rfl
  simp [List.flatMap, e]
theorem up_s0 : ∀ c ∈ s0, Unicode.upperOf c = [c - 32] := by decide +kernel
theorem up_key {k : List Nat} (h : isK (.str k) = true) : upL k = k.map (· - 32) := by
  have h3 := (ky_iff.mp h).2.2
  rw [upL_eq]
  clear h
  induction k with
  | nil => rfl
  | cons c r ih =>
    rw [List.flatMap_cons, up_s0 c (h3 c (List.mem_cons_self ..)), ih (fun c h => h3 c (List.mem_cons_of_mem _ h))]
    rfl
structure Odd (f : D → Bool) (n : Nat) (ds : List D) : Prop where
  len : ds.length ≤ n
  ok : ∀ d ∈ ds, tame d = true ∧ f d = false
theorem Odd.app {f : D → Bool} {n m : Nat} {as bs : List D} (h : Odd f n as) (h2 : Odd f m bs) : Odd f (n + m) (as ++ bs) := ⟨by rw [List.length_append]; have := h.len; have := h2.len; omega, fun d hd => (List.mem_append.mp hd).elim (h.ok d) (h2.ok d)⟩
theorem not_ky {k : List Nat} {c : Nat} (hc : c ∈ k) (h : c ∉ s0) : isK (.str k) = false := by
  cases e : isK (.str k) with
  | false => rfl
  | true => exact absurd ((ky_iff.mp e).2.2 c hc) h
theorem not_vl {k : List Nat} {c : Nat} (hc : c ∈ k) (h : c ∉ s0 ++ s1) : isV (.str k) = false := by
  cases e : isV (.str k) with
  | false => rfl
  | true => exact absurd ((vl_iff.mp e).2.2 c hc) h
theorem up_not {k : List Nat} (h : isK (.str k) = true) : isK (.str (upL k)) = false := by
  rw [up_key h]
  obtain ⟨h1, _, h3⟩ := ky_iff.mp h
  cases k with
  | nil => cases h1
  | cons c r =>
    refine not_ky (c := c - 32) (by simp) fun hm => ?_
    have := mem_s0.mp (h3 c (List.mem_cons_self ..))
    have := mem_s0.mp hm
    omega
theorem up_len {k : List Nat} (h : isK (.str k) = true) : (upL k).length = k.length := by rw [up_key h, List.length_map]
end Lwk11
set_option Elab.async false
set_option linter.all false
set_option maxRecDepth 100000
set_option maxHeartbeats 2000000
namespace Lwk11
open PySem L2 Mi
theorem take_le {α : Type} {k : List α} {n m : Nat} (h : n ≤ m) : (k.take n).length ≤ m := by
  rw [List.length_take]
  omega
theorem t_odd_keys {pen : List D} {key : List Nat} {p : Fr → List Sl → Prop} (hk : isK (.str key) = true) (k : ∀ ds, Odd isK 14 ds → p (.new (.lst ds)) [.own true (.lst pen), .v (.str key)]) :
    Fok F_law_odd_keys [.own true (.lst pen), .v (.str key)] p := by
  obtain ⟨q1, q2, q3⟩ := ky_iff.mp hk
  have sl : ∀ lo hi, sliD (.str key) lo hi = some (.str (cutL key lo hi)) := fun lo hi => sli_s (by omega)
  have l7 := take_le (k := key) (n := 7) (m := 7) (by omega)
  have l3 := take_le (k := key) (n := 3) (m := 3) (by omega)
  have a1 : addD (.str (key.take 7)) (.str s17) = some (.str (key.take 7 ++ s17)) := add_ss (by simp [s17]; omega)
  have a2 : addD (.str (key.take 7)) (.str s16) = some (.str (key.take 7 ++ s16)) := add_ss (by simp [s16]; omega)
  have a3 : addD (.str (key.take 7)) (.str s15) = some (.str (key.take 7 ++ s15)) := add_ss (by simp [s15]; omega)
  have a4 : addD (.str s14) (.str (key.take 7)) = some (.str (s14 ++ key.take 7)) := add_ss (by simp [s14]; omega)
  have a5 : addD (.str (key.take 3)) (.str s13) = some (.str (key.take 3 ++ s13)) := add_ss (by simp [s13]; omega)
  have a6 : addD (.str (key.take 3 ++ s13)) (.str (key.take 3)) = some (.str ((key.take 3 ++ s13) ++ key.take 3)) := add_ss (by simp [s13]; omega)
  have u1 : upD (.str key) = some (.str (upL key)) := by
    unfold upD
    exact if_pos (by omega)
  have tk := ky_tame hk
  refine fok_run rfl rfl ?_
  simp [b_law_odd_keys, sl, a1, a2, a3, a4, a5, a6, u1, isS, add_ll]
  refine k _ ⟨by simp, ?_⟩
  simp only [List.forall_mem_cons]
  have n17 : (10 : Nat) ∉ s0 := by decide
  refine ⟨⟨rfl, rfl⟩, ⟨rfl, rfl⟩, ⟨tame_s (by simp [s17]; omega), not_ky (c := 10) (by simp [s17]) (by decide)⟩, ⟨tame_s (by simp [s16]; omega), not_ky (c := 55) (by simp [s16]) (by decide)⟩,
    ⟨tame_s (by simp [s15]; omega), not_ky (c := 65) (by simp [s15]) (by decide)⟩, ⟨tame_s (by simp [s14]; omega), not_ky (c := 32) (by simp [s14]) (by decide)⟩, ⟨tame_s (by simp [s13]; omega), not_ky (c := 45) (by simp [s13]) (by decide)⟩,
    ⟨tame_s (by rw [up_len hk]; omega), up_not hk⟩, ⟨rfl, rfl⟩, ⟨rfl, rfl⟩, ⟨rfl, rfl⟩, ⟨by simp [tame_t, tk], rfl⟩, ⟨by simp [tame_l, tk], rfl⟩, ⟨rfl, rfl⟩, by simp⟩
end Lwk11
set_option Elab.async false
set_option linter.all false
set_option maxRecDepth 100000
set_option maxHeartbeats 2000000
namespace Lwk11
open PySem L2 Mi
def nv (d : D) : Bool := isNon d || isV d
theorem t_odd_values {pen : List D} {tx : List Nat} {p : Fr → List Sl → Prop} (hk : isV (.str tx) = true) (k : ∀ ds, Odd nv 15 ds → p (.new (.lst ds)) [.own true (.lst pen), .v (.str tx)]) :
    Fok F_law_odd_values [.own true (.lst pen), .v (.str tx)] p := by
  obtain ⟨q1, q2, q3⟩ := vl_iff.mp hk
  have sl : ∀ lo hi, sliD (.str tx) lo hi = some (.str (cutL tx lo hi)) := fun lo hi => sli_s (by omega)
  have l7 := take_le (k := tx) (n := 7) (m := 7) (by omega)
  have a1 : addD (.str (tx.take 7)) (.str s17) = some (.str (tx.take 7 ++ s17)) := add_ss (by simp [s17]; omega)
  have a3 : addD (.str (tx.take 7)) (.str s15) = some (.str (tx.take 7 ++ s15)) := add_ss (by simp [s15]; omega)
  have a2 : addD (.str (tx.take 7)) (.str s14) = some (.str (tx.take 7 ++ s14)) := add_ss (by simp [s14]; omega)
  have a4 : addD (.str s13) (.str (tx.take 7)) = some (.str (s13 ++ tx.take 7)) := add_ss (by simp [s13]; omega)
  have tk := vl_tame hk
  have nn : ∀ k, nv (.str k) = isV (.str k) := fun k => rfl
  refine fok_run rfl rfl ?_
  simp [b_law_odd_values, sl, a1, a2, a3, a4, add_ll]
  refine k _ ⟨by simp, ?_⟩
  simp only [List.forall_mem_cons]
  refine ⟨⟨rfl, rfl⟩, ⟨rfl, rfl⟩, ⟨tame_s (by simp [s17]; omega), not_vl (c := 10) (by simp [s17]) (by decide)⟩, 
    ⟨tame_s (by simp [s15]; omega), not_vl (c := 65) (by simp [s15]) (by decide)⟩, ⟨tame_s (by simp [s14]; omega), not_vl (c := 32) (by simp [s14]) (by decide)⟩, ⟨tame_s (by simp [s13]; omega), not_vl (c := 45) (by simp [s13]) (by decide)⟩,
    ⟨rfl, by decide⟩, ⟨rfl, by decide⟩, ⟨rfl, rfl⟩, ⟨rfl, rfl⟩, ⟨rfl, rfl⟩, ⟨rfl, rfl⟩, ⟨by simp [tame_t, tk], rfl⟩, ⟨by simp [tame_l, tk], rfl⟩, ⟨rfl, rfl⟩, by simp⟩
def btw (lo hi : Int) (d : D) : Bool := match d with
  | .int i => decide (lo ≤ i ∧ i ≤ hi)
  | _ => false
theorem t_odd_numbers {lo hi : Int} {a b : List Nat} {p : Fr → List Sl → Prop} (h0 : 0 ≤ lo) (h1 : lo ≤ 1) (h2 : 64 ≤ hi) (h3 : hi ≤ 999999) (sl : strB [.int lo] = some (.str a)) (sh : strB [.int hi] = some (.str b)) (ta : a.length ≤ 1000) (tb : b.length ≤ 1000) (k : ∀ ds, Odd (btw lo hi) 12 ds → p (.new (.lst ds)) [.v (.int lo), .v (.int hi)]) :
    Fok F_law_odd_numbers [.v (.int lo), .v (.int hi)] p := by
  have e5 : powD (.int 10) (.int 59) = some (.int (10 ^ 59)) := pow_ii (by omega) (by omega) (by omega)
  refine fok_run rfl rfl ?_
  simp [b_law_odd_numbers, sl, sh, e5]
  refine k _ ⟨by simp, ?_⟩
  simp only [List.forall_mem_cons]
  refine ⟨⟨rfl, by simp [btw]; omega⟩, ⟨rfl, by simp [btw]; omega⟩, ⟨rfl, rfl⟩, ⟨rfl, rfl⟩, ⟨rfl, rfl⟩, ⟨tame_s ta, rfl⟩, ⟨tame_s tb, rfl⟩, ⟨rfl, rfl⟩, ⟨rfl, rfl⟩, ⟨rfl, by simp [btw]; omega⟩, ⟨rfl, by simp [btw]; omega⟩, ⟨rfl, rfl⟩, by simp⟩
theorem sb {i : Int} (h : i.natAbs.log2 < 1920) : strB [.int i] = some (.str (strI i)) := if_pos h
theorem st0 : (strI 0).length ≤ 1000 := by decide +kernel
theorem st1' : (strI 1).length ≤ 1000 := by decide +kernel
theorem st64 : (strI 64).length ≤ 1000 := by decide +kernel
theorem st9 : (strI 999999).length ≤ 1000 := by decide +kernel
end Lwk11
set_option Elab.async false
set_option linter.all false
set_option maxRecDepth 100000
set_option maxHeartbeats 2000000
namespace Lwk11
open PySem L2 Mi
def finS (i j : Nat) : Ss := .cons (.ret (.and (.cmp .eq (.bi .repr (.cons (.var i) .nil)) (.bi .repr (.cons (.op .mul (.lst (.cons (.con (.bl true)) .nil)) (.bi .len (.cons (.var i) .nil))) .nil))) (.cmp .eq (.bi .repr (.cons (.var j) .nil)) (.bi .repr (.cons (.op .mul (.lst (.cons (.con (.bl false)) .nil)) (.bi .len (.cons (.var j) .nil))) .nil))))) .nil
theorem all_rep {b : Bool} : ∀ {ds : List D}, (∀ d ∈ ds, d = .bl b) → ds = List.replicate ds.length (.bl b)
  | [], _ => rfl
  | d :: ds, h => by
    rw [List.length_cons, List.replicate_succ, ← all_rep (ds := ds) fun d hd => h d (List.mem_cons_of_mem _ hd), h d (List.mem_cons_self ..)]
theorem rep_rep {b : Bool} {n : Nat} (h : n ≤ 10000) : ∃ t, reprB [.lst (List.replicate n (.bl b))] = some (.str t) := by
  have := repr_b (bs := List.replicate n b) (by simpa using h)
  simpa using this
theorem fin_ok {i j : Nat} {ρ : En} {pF : Fl → En → Prop} {ys ns : List D} (hi : ρ[i]? = some (.own false (.lst ys))) (hj : ρ[j]? = some (.own false (.lst ns))) (hy : ∀ d ∈ ys, d = .bl true) (hn : ∀ d ∈ ns, d = .bl false) (l1 : ys.length ≤ 10000) (l2 : ns.length ≤ 10000)
    (h : pF (.rt (.dat (.bl true))) ρ) : Okv (finS i j).ms ρ pF := by
  have e1 := all_rep hy
  have e2 := all_rep hn
  generalize ys.length = a at e1 l1
  generalize ns.length = b at e2 l2
  subst e1 e2
  obtain ⟨t, ht⟩ := rep_rep (b := true) l1
  obtain ⟨u, hu⟩ := rep_rep (b := false) l2
  have m1 := mul_rep (x := .bl true) (k := a) (by omega)
  have m2 := mul_rep (x := .bl false) (k := b) (by omega)
  simp [finS, hi, hj, ht, hu, m1, m2]
  exact h
end Lwk11
set_option Elab.async false
set_option linter.all false
set_option maxRecDepth 100000
set_option maxHeartbeats 2000000
namespace Lwk11
open PySem L2 Mi
theorem cc_law_questions_right : b_law_questions_right = (.cons (.par [1, 2] (.cons (.call F_law_key (.cons (.var 0) .nil) .nil) (.cons (.call F_law_key (.cons (.var 0) .nil) .nil) .nil))) (.cons (.asg 3 (.lst (.cons (.call F_is_question (.cons (.tup (.cons (.con (.str s4)) (.cons (.var 1) .nil))) .nil) .nil) (.cons (.call F_is_question (.cons (.tup (.cons (.con (.str s3)) (.cons (.var 1) (.cons (.var 2) .nil)))) .nil) .nil) (.cons (.call F_is_question (.cons (.tup (.cons (.con (.str s3)) (.cons (.var 2) (.cons (.var 1) .nil)))) .nil) .nil) .nil))))) (.cons (.asg 3 (.op .add (.var 3) (.lst (.cons (.call F_is_question .nil (.cons (.tup (.cons (.con (.str s2)) .nil)) .nil)) (.cons (.call F_is_question (.cons (.tup (.cons (.con (.str s3)) (.cons (.var 1) (.cons (.var 1) .nil)))) .nil) .nil) .nil))))) (.cons (.asg 4 (.lst (.cons (.tup (.cons (.con (.str s4)) .nil)) (.cons (.tup (.cons (.con (.str s4)) (.cons (.var 1) (.cons (.var 1) .nil)))) (.cons (.tup (.cons (.con (.str s25)) (.cons (.var 1) .nil))) (.cons (.tup (.cons (.con (.str s24)) (.cons (.var 1) .nil))) (.cons (.lst (.cons (.con (.str s4)) (.cons (.var 1) .nil))) (.cons (.tup (.cons (.con (.str s3)) (.cons (.var 1) .nil))) (.cons (.tup (.cons (.con (.str s3)) .nil)) (.cons (.con (.str s2)) .nil)))))))))) (.cons (.asg 4 (.op .add (.var 4) (.lst (.cons (.tup (.cons (.con (.str s3)) (.cons (.var 1) (.cons (.var 2) (.cons (.var 1) .nil))))) (.cons (.tup (.cons (.con (.str s2)) (.cons (.var 1) .nil))) (.cons (.tup (.cons (.con (.str s2)) (.cons (.con .non) .nil))) (.cons (.tup .nil) (.cons (.con .non) (.cons (.con (.str s4)) (.cons (.tup (.cons (.op .add (.var 1) (.con (.str s23))) .nil)) (.cons (.tup (.cons (.tup (.cons (.con (.str s2)) .nil)) .nil)) (.cons (.con (.int 0)) .nil)))))))))))) (.cons (.asg 4 (.op .add (.var 4) (.lst (.cons (.lst .nil) (.cons .dic (.cons (.lst (.cons (.con (.str s2)) .nil)) (.cons (.tup (.cons (.con .non) (.cons (.var 1) .nil))) (.cons (.tup (.cons (.con (.int 0)) (.cons (.var 1) .nil))) (.cons (.tup (.cons (.con (.str s7)) (.cons (.var 1) .nil))) (.cons (.tup (.cons (.con (.str s22)) .nil)) (.cons (.tup (.cons (.con (.str s4)) (.cons (.tup (.cons (.var 1) .nil)) .nil))) (.cons (.con (.bl true)) (.cons (.lst (.cons (.tup (.cons (.con (.str s2)) .nil)) .nil)) .nil))))))))))))) (.cons (.for (.seq (.call F_law_odd_keys (.cons (.var 0) (.cons (.var 1) .nil)) .nil)) (.nm 5) (.cons (.asg 4 (.op .add (.var 4) (.lst (.cons (.tup (.cons (.con (.str s4)) (.cons (.var 5) .nil))) (.cons (.tup (.cons (.con (.str s3)) (.cons (.var 5) (.cons (.var 2) .nil)))) (.cons (.tup (.cons (.con (.str s3)) (.cons (.var 2) (.cons (.var 5) .nil)))) (.cons (.tup (.cons (.var 5) (.cons (.var 1) .nil))) .nil))))))) .nil)) (.cons (.asg 6 (.lc (.seq (.var 4)) (.nm 5) [5] .no (.call F_is_question (.cons (.var 5) .nil) .nil))) (finS 3 6))))))))) := rfl
theorem cc_law_scans_right : b_law_scans_right = (.cons (.asg 1 (.call F_law_pairs (.cons (.var 0) (.cons (.op .add (.con (.int 3)) (.call F_law_draw (.cons (.var 0) (.cons (.con (.int 4)) .nil)) .nil)) .nil)) .nil)) (.cons (.par [2, 3, 4] (.cons (.idx (.idx (.var 1) (.con (.int 0))) (.con (.int 0))) (.cons (.idx (.idx (.var 1) (.neg (.con (.int 1)))) (.con (.int 0))) (.cons (.call F_law_draw (.cons (.var 0) (.cons (.bi .len (.cons (.var 1) .nil)) .nil)) .nil) .nil)))) (.cons (.par [5, 6] (.cons (.tup (.cons (.con (.str s3)) (.cons (.var 2) (.cons (.var 3) .nil)))) (.cons (.call F_law_pairs (.cons (.var 0) (.cons (.con (.int 64)) .nil)) .nil) .nil))) (.cons (.asg 7 (.lst (.cons (.call F_is_answer (.cons (.var 5) (.cons (.var 1) .nil)) .nil) (.cons (.call F_is_answer (.cons (.var 5) (.cons (.sli (.var 1) .no (.so (.var 4))) .nil)) .nil) (.cons (.call F_is_answer (.cons (.var 5) (.cons (.sli (.var 1) (.so (.var 4)) .no) .nil)) .nil) (.cons (.call F_is_answer (.cons (.var 5) (.cons (.tup .nil) .nil)) .nil) .nil)))))) (.cons (.asg 7 (.op .add (.var 7) (.lst (.cons (.call F_is_answer (.cons (.tup (.cons (.con (.str s3)) (.cons (.var 3) (.cons (.var 2) .nil)))) (.cons (.tup .nil) .nil)) .nil) (.cons (.call F_is_answer (.cons (.tup (.cons (.con (.str s3)) (.cons (.con (.str s10)) (.cons (.con (.str s11)) .nil)))) (.cons (.var 6) .nil)) .nil) .nil))))) (.cons (.asg 7 (.op .add (.var 7) (.lst (.cons (.call F_is_answer .nil (.cons (.var 5) (.cons (.sli (.var 1) (.so (.var 4)) (.so (.op .add (.var 4) (.con (.int 1))))) .nil))) .nil)))) (.cons (.asg 8 (.lst (.cons (.bi .list (.cons (.var 1) .nil)) (.cons (.con .non) (.cons (.con (.int 0)) (.cons (.con (.str s7)) (.cons (.con (.bl true)) (.cons (.op .add (.var 1) (.tup (.cons (.con .non) .nil))) (.cons (.stp (.var 1) (.neg (.con (.int 1)))) (.cons (.op .add (.var 1) (.sli (.var 1) (.so (.neg (.con (.int 1)))) .no)) (.cons (.op .add (.sli (.var 1) .no (.so (.con (.int 1)))) (.var 1)) (.cons (.tup (.cons (.var 1) .nil)) (.cons .dic .nil))))))))))))) (.cons (.asg 8 (.op .add (.var 8) (.lst (.cons (.call F_law_swap (.cons (.var 1) (.cons (.var 4) (.cons (.bi .list (.cons (.idx (.var 1) (.var 4)) .nil)) .nil))) .nil) (.cons (.call F_law_swap (.cons (.var 1) (.cons (.var 4) (.cons (.op .add (.idx (.var 1) (.var 4)) (.tup (.cons (.con (.str s26)) .nil))) .nil))) .nil) (.cons (.call F_law_swap (.cons (.var 1) (.cons (.var 4) (.cons (.con .non) .nil))) .nil) .nil)))))) (.cons (.asg 8 (.op .add (.var 8) (.lst (.cons (.call F_law_swap (.cons (.var 1) (.cons (.var 4) (.cons (.sli (.idx (.var 1) (.var 4)) .no (.so (.con (.int 1)))) .nil))) .nil) (.cons (.call F_law_swap (.cons (.var 1) (.cons (.var 4) (.cons (.tup (.cons (.idx (.idx (.var 1) (.var 4)) (.con (.int 0))) (.cons (.con .non) .nil))) .nil))) .nil) .nil))))) (.cons (.for (.seq (.call F_law_odd_keys (.cons (.var 0) (.cons (.idx (.idx (.var 1) (.var 4)) (.con (.int 0))) .nil)) .nil)) (.nm 9) (.cons (.expr (.app 8 (.call F_law_swap (.cons (.var 1) (.cons (.var 4) (.cons (.tup (.cons (.var 9) (.cons (.idx (.idx (.var 1) (.var 4)) (.con (.int 1))) .nil))) .nil))) .nil))) .nil)) (.cons (.for (.seq (.call F_law_odd_values (.cons (.var 0) (.cons (.idx (.idx (.var 1) (.var 4)) (.con (.int 1))) .nil)) .nil)) (.nm 9) (.cons (.expr (.app 8 (.call F_law_swap (.cons (.var 1) (.cons (.var 4) (.cons (.tup (.cons (.idx (.idx (.var 1) (.var 4)) (.con (.int 0))) (.cons (.var 9) .nil))) .nil))) .nil))) .nil)) (.cons (.asg 10 (.lc (.seq (.var 8)) (.nm 9) [9] .no (.call F_is_answer (.cons (.var 5) (.cons (.var 9) .nil)) .nil))) (.cons (.asg 10 (.op .add (.var 10) (.lst (.cons (.call F_is_answer (.cons (.tup (.cons (.con (.str s3)) (.cons (.idx (.idx (.var 1) (.con (.int 1))) (.con (.int 0))) (.cons (.var 3) .nil)))) (.cons (.var 1) .nil)) .nil) (.cons (.call F_is_answer (.cons (.tup (.cons (.con (.str s3)) (.cons (.var 2) (.cons (.idx (.idx (.var 1) (.neg (.con (.int 2)))) (.con (.int 0))) .nil)))) (.cons (.var 1) .nil)) .nil) .nil))))) (.cons (.asg 10 (.op .add (.var 10) (.lst (.cons (.call F_is_answer (.cons (.tup (.cons (.con (.str s3)) (.cons (.var 3) (.cons (.var 2) .nil)))) (.cons (.var 1) .nil)) .nil) (.cons (.call F_is_answer (.cons (.tup (.cons (.con (.str s3)) (.cons (.var 3) (.cons (.var 2) .nil)))) (.cons (.sli (.var 1) (.so (.var 4)) (.so (.op .add (.var 4) (.con (.int 1))))) .nil)) .nil) .nil))))) (.cons (.asg 11 (.op .add (.sli (.var 6) .no (.so (.con (.int 64)))) (.tup (.cons (.tup (.cons (.op .add (.sli (.idx (.idx (.var 6) (.neg (.con (.int 1)))) (.con (.int 0))) .no (.so (.con (.int 6)))) (.con (.str s27))) (.cons (.con (.str s26)) .nil))) .nil)))) (.cons (.asg 10 (.op .add (.var 10) (.lst (.cons (.call F_is_answer (.cons (.tup (.cons (.con (.str s3)) (.cons (.con (.str s10)) (.cons (.con (.str s11)) .nil)))) (.cons (.var 11) .nil)) .nil) (.cons (.call F_is_answer (.cons (.lst (.cons (.con (.str s3)) (.cons (.var 2) (.cons (.var 3) .nil)))) (.cons (.var 1) .nil)) .nil) .nil))))) (finS 7 10))))))))))))))))) := rfl
theorem cc_law_answers_right : b_law_answers_right = (.cons (.par [1, 2, 3] (.cons (.call F_law_key (.cons (.var 0) .nil) .nil) (.cons (.call F_law_value (.cons (.var 0) .nil) .nil) (.cons (.tup (.cons (.con (.str s2)) .nil)) .nil)))) (.cons (.asg 4 (.lst (.cons (.call F_is_answer (.cons (.tup (.cons (.con (.str s4)) (.cons (.var 1) .nil))) (.cons (.con .non) .nil)) .nil) (.cons (.call F_is_answer (.cons (.tup (.cons (.con (.str s4)) (.cons (.var 1) .nil))) (.cons (.var 2) .nil)) .nil) (.cons (.call F_is_answer (.cons (.tup (.cons (.con (.str s4)) (.cons (.var 1) .nil))) (.cons (.con (.str s30)) .nil)) .nil) .nil))))) (.cons (.asg 4 (.op .add (.var 4) (.lst (.cons (.call F_is_answer (.cons (.var 3) (.cons (.con (.int 0)) .nil)) .nil) (.cons (.call F_is_answer (.cons (.var 3) (.cons (.con (.int 64)) .nil)) .nil) (.cons (.call F_is_answer (.cons (.var 3) (.cons (.call F_law_draw (.cons (.var 0) (.cons (.con (.int 65)) .nil)) .nil) .nil)) .nil) .nil)))))) (.cons (.asg 5 (.lc (.seq (.call F_law_odd_values (.cons (.var 0) (.cons (.var 2) .nil)) .nil)) (.nm 6) [6] .no (.call F_is_answer (.cons (.tup (.cons (.con (.str s4)) (.cons (.var 1) .nil))) (.cons (.var 6) .nil)) .nil))) (.cons (.asg 5 (.op .add (.var 5) (.lc (.seq (.op .add (.call F_law_odd_numbers (.cons (.con (.int 0)) (.cons (.con (.int 64)) .nil)) .nil) (.lst (.cons (.var 2) (.cons (.tup .nil) .nil))))) (.nm 6) [6] .no (.call F_is_answer (.cons (.var 3) (.cons (.var 6) .nil)) .nil)))) (.cons (.asg 5 (.op .add (.var 5) (.lst (.cons (.call F_is_answer (.cons (.tup (.cons (.con (.str s4)) (.cons (.var 1) .nil))) (.cons (.tup .nil) .nil)) .nil) (.cons (.call F_is_answer (.cons (.tup (.cons (.con (.str s4)) (.cons (.var 1) .nil))) (.cons (.tup (.cons (.tup (.cons (.var 1) (.cons (.var 2) .nil))) .nil)) .nil)) .nil) (.cons (.call F_is_answer (.cons (.var 3) (.cons (.tup (.cons (.tup (.cons (.var 1) (.cons (.var 2) .nil))) .nil)) .nil)) .nil) .nil)))))) (.cons (.for (.seq (.tup (.cons (.con .non) (.cons (.con (.str s2)) (.cons (.tup (.cons (.con (.str s2)) (.cons (.con (.int 1)) .nil))) (.cons (.tup (.cons (.con (.str s4)) .nil)) (.cons (.lst (.cons (.con (.str s4)) (.cons (.var 1) .nil))) (.cons (.tup .nil) (.cons (.con (.int 0)) (.cons (.tup (.cons (.con (.str s4)) (.cons (.con (.str s29)) .nil))) (.cons (.tup (.cons (.con (.str s28)) (.cons (.var 1) .nil))) .nil))))))))))) (.nm 6) (.cons (.asg 5 (.op .add (.var 5) (.lst (.cons (.call F_is_answer (.cons (.var 6) (.cons (.con .non) .nil)) .nil) (.cons (.call F_is_answer (.cons (.var 6) (.cons (.con (.int 0)) .nil)) .nil) (.cons (.call F_is_answer (.cons (.var 6) (.cons (.var 2) .nil)) .nil) (.cons (.call F_is_answer (.cons (.var 6) (.cons (.tup .nil) .nil)) .nil) .nil))))))) .nil)) (finS 4 5)))))))) := rfl
theorem cc_law_notes_right : b_law_notes_right = (.cons (.asgT (.tup (.cons (.nm 1) (.cons (.nm 2) .nil))) (.call F_law_asked (.cons (.var 0) (.cons (.con (.int 4)) .nil)) .nil)) (.cons (.asg 3 (.lc (.seq (.tup (.cons (.con (.int 0)) (.cons (.con (.int 999999)) (.cons (.call F_law_draw (.cons (.var 0) (.cons (.con (.int 1000000)) .nil)) .nil) .nil))))) (.nm 4) [4] .no (.call F_is_note (.cons (.tup (.cons (.var 4) (.cons (.var 1) (.cons (.var 2) .nil)))) .nil) .nil))) (.cons (.expr (.app 3 (.call F_is_note .nil (.cons (.tup (.cons (.con (.int 7)) (.cons (.var 1) (.cons (.var 2) .nil)))) .nil)))) (.cons (.asg 5 (.lc (.seq (.call F_law_odd_numbers (.cons (.con (.int 0)) (.cons (.con (.int 999999)) .nil)) .nil)) (.nm 6) [6] .no (.tup (.cons (.var 6) (.cons (.var 1) (.cons (.var 2) .nil)))))) (.cons (.asg 5 (.op .add (.var 5) (.lst (.cons (.lst (.cons (.con (.int 3)) (.cons (.var 1) (.cons (.var 2) .nil)))) (.cons (.tup (.cons (.con (.int 3)) (.cons (.var 1) .nil))) (.cons (.tup (.cons (.con (.int 3)) (.cons (.var 1) (.cons (.var 2) (.cons (.con .non) .nil))))) (.cons (.tup (.cons (.var 1) (.cons (.con (.int 3)) (.cons (.var 2) .nil)))) (.cons (.con .non) (.cons (.tup .nil) (.cons (.tup (.cons (.con (.int 3)) .nil)) (.cons (.con (.int 3)) (.cons (.con (.str s7)) (.cons .dic .nil))))))))))))) (.cons (.asg 5 (.op .add (.var 5) (.lst (.cons (.tup (.cons (.con (.int 3)) (.cons (.bi .list (.cons (.var 1) .nil)) (.cons (.var 2) .nil)))) (.cons (.tup (.cons (.con (.int 3)) (.cons (.op .add (.var 1) (.tup (.cons (.con (.str s10)) .nil))) (.cons (.var 2) .nil)))) (.cons (.tup (.cons (.con (.int 3)) (.cons (.var 2) (.cons (.var 1) .nil)))) (.cons (.tup (.cons (.con (.int 3)) (.cons (.var 1) (.cons (.lst (.cons (.var 2) .nil)) .nil)))) .nil))))))) (.cons (.asg 5 (.op .add (.var 5) (.lst (.cons (.tup (.cons (.con (.int 3)) (.cons (.var 1) (.cons (.con (.bl true)) .nil)))) (.cons (.tup (.cons (.con (.int 3)) (.cons (.con .non) (.cons (.con .non) .nil)))) (.cons (.tup (.cons (.con (.int 3)) (.cons (.tup (.cons (.con (.str s4)) (.cons (.con (.str s29)) .nil))) (.cons (.con .non) .nil)))) (.cons (.tup (.cons (.con (.int 3)) (.cons (.var 1) (.cons (.neg (.con (.int 1))) .nil)))) (.cons (.tup (.cons (.tup (.cons (.con (.int 3)) (.cons (.var 1) (.cons (.var 2) .nil)))) .nil)) .nil)))))))) (.cons (.asg 5 (.op .add (.var 5) (.lst (.cons (.tup (.cons (.con (.int 3)) (.cons (.var 1) (.cons (.con (.str s15)) .nil)))) (.cons (.tup (.cons (.con (.int 3)) (.cons (.var 1) (.cons (.tup (.cons (.con .non) .nil)) .nil)))) (.cons (.tup (.cons (.con (.int 3)) (.cons (.var 1) (.cons (.con (.int 65)) .nil)))) .nil)))))) (.cons (.asg 7 (.lc (.seq (.var 5)) (.nm 6) [6] .no (.call F_is_note (.cons (.var 6) .nil) .nil))) (finS 3 7)))))))))) := rfl
theorem cc_law_runs_right : b_law_runs_right = (.cons (.par [1, 2] (.cons (.lst .nil) (.cons (.lst .nil) .nil))) (.cons (.for (.seq (.tup (.cons (.con .non) (.cons (.con (.int 1)) (.cons (.con (.int 999999)) (.cons (.op .add (.con (.int 1)) (.call F_law_draw (.cons (.var 0) (.cons (.con (.int 999999)) .nil)) .nil)) .nil)))))) (.nm 3) (.cons (.asg 4 (.call F_law_run (.cons (.var 0) (.cons (.var 3) (.cons (.call F_law_draw (.cons (.var 0) (.cons (.con (.int 5)) .nil)) .nil) .nil))) .nil)) (.cons (.expr (.app 1 (.call F_is_run (.cons (.var 4) .nil) .nil))) (.cons (.asg 2 (.op .add (.var 2) (.lc (.seq (.call F_law_odd_runs (.cons (.var 0) (.cons (.var 4) .nil)) .nil)) (.nm 5) [5] .no (.call F_is_run (.cons (.var 5) .nil) .nil)))) .nil)))) (.cons (.asg 6 (.bi .tuple (.cons (.lc (.rng1 (.cons (.con (.int 61)) .nil)) (.nm 7) [7] .no (.tup (.cons (.con (.int 4)) (.cons (.tup (.cons (.con (.str s2)) .nil)) (.cons (.var 7) .nil))))) .nil))) (.cons (.asg 1 (.op .add (.var 1) (.lst (.cons (.call F_is_run (.cons (.tup (.cons (.con (.str s5)) (.cons (.con (.int 5)) (.cons (.con (.int 3)) (.cons (.var 6) .nil))))) .nil) .nil) (.cons (.call F_is_run (.cons (.tup (.cons (.con (.str s6)) (.cons (.con (.int 7)) (.cons (.var 6) .nil)))) .nil) .nil) (.cons (.call F_is_run (.cons (.tup (.cons (.con (.str s5)) (.cons (.con (.int 0)) (.cons (.con (.int 999999)) (.cons (.tup .nil) .nil))))) .nil) .nil) .nil)))))) (.cons (.asg 1 (.op .add (.var 1) (.lst (.cons (.call F_is_run (.cons (.tup (.cons (.con (.str s5)) (.cons (.con (.int 999999)) (.cons (.con (.int 0)) (.cons (.tup .nil) .nil))))) .nil) .nil) (.cons (.call F_is_run .nil (.cons (.tup (.cons (.con (.str s5)) (.cons (.con (.int 0)) (.cons (.con (.int 0)) (.cons (.sli (.var 6) .no (.so (.con (.int 1)))) .nil))))) .nil)) .nil))))) (finS 1 2)))))) := rfl
theorem cc_law_bounds_right : b_law_bounds_right = (.cons (.par [1, 2] (.cons (.call F_law_full (.cons (.var 0) .nil) .nil) (.cons (.call F_law_draw (.cons (.var 0) (.cons (.con (.int 6)) .nil)) .nil) .nil))) (.cons (.asgT (.tup (.cons (.nm 3) (.cons (.nm 4) .nil))) (.idx (.var 1) (.var 2))) (.cons (.asg 5 (.lc (.enum (.cons (.var 4) .nil)) (.tup (.cons (.nm 6) (.cons (.nm 7) .nil))) [6, 7] (.so (.cmp .eq (.idx (.var 7) (.con (.int 0))) (.con (.str s6)))) (.var 6))) (.cons (.asg 6 (.call F_law_pick (.cons (.var 0) (.cons (.var 5) .nil)) .nil)) (.cons (.asg 8 (.lst (.cons (.call F_are_accounts (.cons (.var 1) .nil) .nil) (.cons (.call F_are_accounts (.cons (.sli (.var 1) .no (.so (.var 2))) .nil) .nil) (.cons (.call F_are_accounts (.cons (.sli (.var 1) (.so (.var 2)) .no) .nil) .nil) (.cons (.call F_are_accounts .nil (.cons (.stp (.var 1) (.neg (.con (.int 1)))) .nil)) .nil)))))) (.cons (.asg 8 (.op .add (.var 8) (.lst (.cons (.call F_are_accounts (.cons (.tup .nil) .nil) .nil) (.cons (.call F_are_accounts (.cons (.call F_law_swap (.cons (.var 1) (.cons (.var 2) (.cons (.tup (.cons (.var 3) (.cons (.sli (.var 4) .no (.so (.con (.int 1)))) .nil))) .nil))) .nil) .nil) .nil) .nil))))) (.cons (.asg 9 (.op .add (.sli (.idx (.var 4) (.var 6)) .no (.so (.neg (.con (.int 1))))) (.tup (.cons (.op .add (.idx (.idx (.var 4) (.var 6)) (.neg (.con (.int 1)))) (.tup (.cons (.tup (.cons (.con (.int 999999)) (.cons (.tup (.cons (.con (.str s2)) .nil)) (.cons (.con (.int 0)) .nil)))) .nil))) .nil)))) (.cons (.asg 10 (.lst (.cons (.call F_law_swap (.cons (.var 1) (.cons (.var 2) (.cons (.tup (.cons (.var 3) (.cons (.call F_law_swap (.cons (.var 4) (.cons (.var 6) (.cons (.var 9) .nil))) .nil) .nil))) .nil))) .nil) .nil))) (.cons (.expr (.app 10 (.call F_law_swap (.cons (.var 1) (.cons (.var 2) (.cons (.tup (.cons (.var 3) (.cons (.call F_law_swap (.cons (.var 4) (.cons (.var 6) (.cons (.tup (.cons (.con (.str s5)) (.cons (.con (.int 0)) (.cons (.con (.int 0)) (.cons (.idx (.idx (.var 4) (.var 6)) (.neg (.con (.int 1)))) .nil))))) .nil))) .nil) .nil))) .nil))) .nil))) (.cons (.expr (.app 10 (.call F_law_swap (.cons (.var 1) (.cons (.var 2) (.cons (.tup (.cons (.var 3) (.cons (.op .add (.var 4) (.sli (.var 4) (.so (.var 6)) (.so (.op .add (.var 6) (.con (.int 1)))))) .nil))) .nil))) .nil))) (.cons (.expr (.app 10 (.call F_law_swap (.cons (.sli (.var 1) .no (.so (.con (.int 5)))) (.cons (.op .fdiv (.var 2) (.con (.int 2))) (.cons (.tup (.cons (.idx (.idx (.var 1) (.op .fdiv (.var 2) (.con (.int 2)))) (.con (.int 0))) (.cons (.op .add (.idx (.idx (.var 1) (.op .fdiv (.var 2) (.con (.int 2)))) (.con (.int 1))) (.sli (.idx (.idx (.var 1) (.con (.int 5))) (.con (.int 1))) (.so (.var 6)) (.so (.op .add (.var 6) (.con (.int 1)))))) .nil))) .nil))) .nil))) (.cons (.expr (.app 10 (.op .add (.var 1) (.tup (.cons (.tup (.cons (.con (.str s11)) (.cons (.tup (.cons (.tup (.cons (.con (.str s6)) (.cons (.op .add (.con (.int 1)) (.call F_law_draw (.cons (.var 0) (.cons (.con (.int 9)) .nil)) .nil)) (.cons (.tup .nil) .nil)))) .nil)) .nil))) .nil))))) (.cons (.expr (.app 10 (.op .add (.bi .tuple (.cons (.lc (.seq (.var 1)) (.nm 11) [11] .no (.tup (.cons (.idx (.var 11) (.con (.int 0))) (.cons (.sli (.idx (.var 11) (.con (.int 1))) .no (.so (.con (.int 1)))) .nil)))) .nil)) (.tup (.cons (.tup (.cons (.con (.str s11)) (.cons (.sli (.idx (.idx (.var 1) (.con (.int 0))) (.con (.int 1))) (.so (.con (.int 1))) (.so (.con (.int 2)))) .nil))) .nil))))) (.cons (.asg 12 (.lc (.seq (.var 10)) (.nm 13) [13] .no (.call F_are_accounts (.cons (.var 13) .nil) .nil))) (finS 8 12))))))))))))))) := rfl
end Lwk11
set_option Elab.async false
set_option linter.all false
set_option maxRecDepth 100000
set_option maxHeartbeats 2000000
namespace Lwk11
open PySem L2 Mi
theorem t_questions_right {n : Nat} {pen : List D} {p : Fr → List Sl → Prop} (hp : PenOk n pen) (hn : n + 20 ≤ lim) (k : ∀ pen', PenOk (n + 20) pen' → p (.dat (.bl true)) [.own true (.lst pen')]) :
    Fok F_law_questions_right [.own true (.lst pen)] p := by
  refine fok_run rfl rfl ?_
  rw [cc_law_questions_right]
  simp
  refine t_key hp (by omega) fun pen1 key hp1 hk => ?_
  simp
  refine t_key hp1 (by omega) fun pen2 oth hp2 ho => ?_
  have tk := ky_tame hk
  have to := ky_tame ho
  have q1 : tame (.tup [.str s4, .str key]) = true := by simp [tame_t, tk, tm_s4]
  have q2 : tame (.tup [.str s3, .str key, .str oth]) = true := by simp [tame_t, tk, to, tm_s3]
  have q3 : tame (.tup [.str s3, .str oth, .str key]) = true := by simp [tame_t, tk, to, tm_s3]
  have q4 : tame (.tup [.str s2]) = true := by simp [tame_t, tm_s2]
  have q5 : tame (.tup [.str s3, .str key, .str key]) = true := by simp [tame_t, tk, tm_s3]
  have a1 : addD (.str key) (.str s23) = some (.str (key ++ s23)) := add_ss (by have := (ky_iff.mp hk).2.1; simp [s23]; omega)
  simp [q1, q2, q3, q4, q5, add_ll, a1]
  refine t_odd_keys hk fun vs hvs => ?_
  simp
  obtain ⟨P, hP⟩ : ∃ P : List D → En → Prop, ∀ rs ρ, P rs ρ ↔ (∃ (odd : List D) (x5 : Sl), odd.length + 4 * rs.length ≤ 100 ∧ (∀ d ∈ odd, tame d = true ∧ isQ d = false) ∧ (∀ d ∈ rs, tame d = true ∧ isK d = false) ∧ (x5 = .no ∨ ∃ d, x5 = .v d) ∧
    ρ = [.own true (.lst pen2), .v (.str key), .v (.str oth), .own false (.lst [.bl (isQ (.tup [.str s4, .str key])), .bl (isQ (.tup [.str s3, .str key, .str oth])), .bl (isQ (.tup [.str s3, .str oth, .str key])), .bl (isQ (.tup [.str s2])), .bl (isQ (.tup [.str s3, .str key, .str key]))]), .own false (.lst odd), x5, .no]) := ⟨_, fun _ _ => Iff.rfl⟩
  have ne : ∀ w, key ++ s23 = w → w.getLast? ≠ some 115 → False := fun w e h => h (by rw [← e]; simp [s23])
  refine for_inv P ?_ ?_ ?_
  · refine (hP _ _).mpr ⟨_, _, ?_, ?_, hvs.ok, .inl rfl, rfl⟩
    · have := hvs.len
      simp only [List.length_cons, List.length_nil]
      omega
    · simp only [List.forall_mem_cons]
      have n1 : ¬ (key ++ s23 = s4) := fun e => ne _ e (by decide)
      have n2 : ¬ (key ++ s23 = s3) := fun e => ne _ e (by decide)
      have n3 : ¬ (key ++ s23 = s2) := fun e => ne _ e (by decide)
      have t1 : tame (.str (key ++ s23)) = true := tame_s (by have := (ky_iff.mp hk).2.1; simp [s23]; omega)
      have y25 : tame (.str s25) = true := tame_s (by decide)
      have y24 : tame (.str s24) = true := tame_s (by decide)
      have y22 : tame (.str s22) = true := tame_s (by decide)
      have y7 : tame (.str s7) = true := tame_s (by decide)
      have d1 : ¬ s25 = s4 := by decide
      have d2 : ¬ s25 = s3 := by decide
      have d3 : ¬ s25 = s2 := by decide
      have d4 : ¬ s24 = s4 := by decide
      have d5 : ¬ s24 = s3 := by decide
      have d6 : ¬ s24 = s2 := by decide
      have d7 : ¬ s22 = s4 := by decide
      have d8 : ¬ s22 = s3 := by decide
      have d9 : ¬ s22 = s2 := by decide
      have da : ¬ s7 = s4 := by decide
      have db : ¬ s7 = s3 := by decide
      have dc : ¬ s7 = s2 := by decide
      have dd : isK (.tup [.str key]) = false := rfl
      simp [tame_t, tame_l, tk, to, tm_s2, tm_s3, tm_s4, isQ, n1, n2, n3, t1, y25, y24, y22, y7, d1, d2, d3, d4, d5, d6, d7, d8, d9, da, db, dc, dd, n34, n24, n23]
  · intro d ds ρ h
    obtain ⟨odd, x5, hl, ho1, hr, hx5, rfl⟩ := (hP _ _).mp h
    obtain ⟨hd1, hd2⟩ := hr d (List.mem_cons_self ..)
    rw [List.length_cons] at hl
    have a2 : addD (.lst odd) (.lst [.tup [.str s4, d], .tup [.str s3, d, .str oth], .tup [.str s3, .str oth, d], .tup [d, .str key]]) = some (.lst (odd ++ [.tup [.str s4, d], .tup [.str s3, d, .str oth], .tup [.str s3, .str oth, d], .tup [d, .str key]])) := add_ll (by simp; omega)
    simp [a2]
    refine (hP _ _).mpr ⟨_, _, ?_, ?_, fun d h => hr d (List.mem_cons_of_mem _ h), .inr ⟨_, rfl⟩, rfl⟩
    · simp only [List.length_append, List.length_cons, List.length_nil]
      omega
    · intro x hx
      rcases List.mem_append.mp hx with hx | hx
      · exact ho1 x hx
      · have q : isQ (.tup [d, .str key]) = false := by
          cases d with
          | str w =>
            by_cases w4 : w = s4
            · subst w4
              exact absurd hd2 (by decide)
            · by_cases w3 : w = s3
              · simp [isQ, w3, n34]
              · simp [isQ, w4, w3]
          | _ => rfl
        simp only [List.mem_cons, List.not_mem_nil, or_false] at hx
        rcases hx with rfl | rfl | rfl | rfl
        · exact ⟨by simp [tame_t, hd1, tm_s4], by simp [isQ, hd2]⟩
        · exact ⟨by simp [tame_t, hd1, to, tm_s3], by simp [isQ, hd2, n34]⟩
        · exact ⟨by simp [tame_t, hd1, to, tm_s3], by simp [isQ, hd2, n34]⟩
        · exact ⟨by simp [tame_t, hd1, tk], q⟩
  · intro ρ h
    obtain ⟨odd, x5, hl, ho1, hr, hx5, rfl⟩ := (hP _ _).mp h
    simp
    refine lc_map (fun d => .bl (isQ d)) ?_ (line_le (by simp at hl; omega)) (fun d hd => by simp [(ho1 d hd).1]) ?_
    · rcases hx5 with rfl | ⟨d, rfl⟩ <;> simp
    · simp
      refine fin_ok rfl rfl ?_ ?_ ?_ ?_ ?_
      · simp [isQ, hk, ho, n34, n24, n23]
      · intro d hd
        obtain ⟨x, hx, rfl⟩ := List.mem_map.mp hd
        rw [(ho1 x hx).2]
      · simp
      · simp at hl ⊢
        omega
      · simp
        exact k _ (hp2.mono (by omega))
end Lwk11
set_option Elab.async false
set_option linter.all false
set_option maxRecDepth 100000
set_option maxHeartbeats 2000000
namespace Lwk11
open PySem L2 Mi
theorem PsOk.sub {n : Nat} {kvs kvs' : List (List Nat × List Nat)} (h : PsOk n kvs) (hs : kvs'.Sublist kvs) : PsOk kvs'.length kvs' :=
  ⟨⟨by rw [List.length_map], fun k hk => h.ks.ky k ((hs.map _).subset hk), h.ks.asc.sublist (hs.map _)⟩, fun kv hkv => h.vl kv (hs.subset hkv)⟩
theorem not_prs {ds : List D} {d : D} {lo hi : List Nat} (hm : d ∈ ds) (h : isPr d = false) : arePrs (.tup ds) lo hi = false := by
  have : ds.all isPr = false := by
    rw [List.all_eq_false]
    exact ⟨d, hm, by simp [h]⟩
  simp [arePrs, this]
theorem not_betw {ds : List D} {d : D} {lo hi : List Nat} (hm : d ∈ ds) (h : betw lo hi d = false) : arePrs (.tup ds) lo hi = false := by
  have : ds.all (betw lo hi) = false := by
    rw [List.all_eq_false]
    exact ⟨d, hm, by simp [h]⟩
  simp [arePrs, this]
theorem adj_app {f : D → D → Bool} {a b : D} : ∀ {xs ys : List D}, adj f (xs ++ a :: b :: ys) = true → f a b = true
  | [], ys, h => by
    simp only [adj, List.nil_append, List.tail_cons, List.zip_cons_cons, List.all_cons, Bool.and_eq_true] at h
    exact h.1
  | x :: xs, ys, h => by
    refine adj_app (xs := xs) (ys := ys) ?_
    cases xs with
    | nil =>
      simp only [adj, List.cons_append, List.nil_append, List.tail_cons, List.zip_cons_cons, List.all_cons, Bool.and_eq_true] at h ⊢
      exact h.2
    | cons y xs =>
      simp only [adj, List.cons_append, List.tail_cons, List.zip_cons_cons, List.all_cons, Bool.and_eq_true] at h ⊢
      exact h.2
theorem not_adj {xs ys : List D} {a b : D} {lo hi : List Nat} (h : strLt (pk a) (pk b) = false) : arePrs (.tup (xs ++ a :: b :: ys)) lo hi = false := by
  have : adj (fun a b => strLt (pk a) (pk b)) (xs ++ a :: b :: ys) = false := by
    cases e : adj (fun a b => strLt (pk a) (pk b)) (xs ++ a :: b :: ys) with
    | false => rfl
    | true =>
      have := adj_app e
      rw [h] at this
      cases this
  simp [arePrs, this]
end Lwk11
set_option Elab.async false
set_option linter.all false
set_option maxRecDepth 100000
set_option maxHeartbeats 2000000
namespace Lwk11
open PySem L2 Mi
theorem tame_mk {ds : List D} (hl : ds.length ≤ 1000) (h : ∀ d ∈ ds, tame d = true) : tame (.tup ds) = true := by
  rw [tame_t, Bool.and_eq_true, decide_eq_true_eq, tames_iff]
  exact ⟨hl, h⟩
theorem swp_mem {ds : List D} {k : Nat} {x : D} : x ∈ swp ds k x := by simp [swp]
theorem swp_tame {ds : List D} {k : Nat} {x : D} (hl : ds.length ≤ 900) (h : ∀ d ∈ ds, tame d = true) (hx : tame x = true) : tame (.tup (swp ds k x)) = true := by
  refine tame_mk ?_ fun d hd => ?_
  · unfold swp
    rw [List.length_append, List.length_take, List.length_cons, List.length_drop]
    omega
  · unfold swp at hd
    rcases List.mem_append.mp hd with h1 | h1
    · exact h d (List.mem_of_mem_take h1)
    · rcases List.mem_cons.mp h1 with rfl | h1
      · exact hx
      · exact h d (List.mem_of_mem_drop h1)
theorem isA_scan_f {lo hi : List Nat} {a : D} (h : arePrs a lo hi = false) : isA (.tup [.str s3, .str lo, .str hi]) a = false := by
  simp [isA, isQ, h, n34]
theorem prs_nt {d : D} {lo hi : List Nat} (h : ∀ ds, d ≠ .tup ds) : arePrs d lo hi = false := by
  cases d with
  | tup ds => exact absurd rfl (h ds)
  | _ => rfl
theorem rev_pick {ds : List D} (h1 : 3 ≤ ds.length) (h2 : ds.length ≤ 6) : pickD ds (tpIx ds.length (-1)) = ds.reverse := by
  have i3 : tpIx 3 (-1) = [2, 1, 0] := by decide
  have i4 : tpIx 4 (-1) = [3, 2, 1, 0] := by decide
  have i5 : tpIx 5 (-1) = [4, 3, 2, 1, 0] := by decide
  have i6 : tpIx 6 (-1) = [5, 4, 3, 2, 1, 0] := by decide
  match ds, h1, h2 with
  | [a, b, c], _, _ => simp [pickD, i3]
  | [a, b, c, d], _, _ => simp [pickD, i4]
  | [a, b, c, d, e], _, _ => simp [pickD, i5]
  | [a, b, c, d, e, f], _, _ => simp [pickD, i6]
def ysT (a z : List Nat) (ds fs : List D) (k : Nat) : List D := [.bl (isA (.tup [.str s3, .str a, .str z]) (.tup ds)), .bl (isA (.tup [.str s3, .str a, .str z]) (.tup (ds.take k))), .bl (isA (.tup [.str s3, .str a, .str z]) (.tup (ds.drop k))), .bl (isA (.tup [.str s3, .str a, .str z]) (.tup [])),
  .bl (isA (.tup [.str s3, .str z, .str a]) (.tup [])), .bl (isA (.tup [.str s3, .str s10, .str s11]) (.tup fs)), .bl (isA (.tup [.str s3, .str a, .str z]) (.tup ((ds.drop k).take 1)))]
theorem swp_no {ds : List D} {k : Nat} {x : D} {lo hi : List Nat} (h : isPr x = false) : isA (.tup [.str s3, .str lo, .str hi]) (.tup (swp ds k x)) = false := isA_scan_f (not_prs swp_mem h)
theorem t_scans_right {n : Nat} {pen : List D} {p : Fr → List Sl → Prop} (hp : PenOk n pen) (hn : n + 700 ≤ lim) (k : ∀ pen', PenOk (n + 700) pen' → p (.dat (.bl true)) [.own true (.lst pen')]) :
    Fok F_law_scans_right [.own true (.lst pen)] p := by
  refine fok_run rfl rfl ?_
  rw [cc_law_scans_right]
  simp
  refine t_draw hp (by omega) (by omega) (by omega) fun pen1 w hp1 w0 w1 => ?_
  obtain ⟨w, rfl⟩ : ∃ k : Nat, w = k := ⟨w.toNat, by omega⟩
  simp
  have e3 : (3 + (w : Int)) = ((3 + w : Nat) : Int) := by omega
  rw [e3]
  refine t_pairs hp1 (by omega) (by omega) fun pen2 kvs hp2 hps => ?_
  have hkl : kvs.length = 3 + w := hps.len
  have tds := hps.tame (by omega)
  have tdm : ∀ d ∈ kvs.map pr, tame d = true := fun d hd => tup_in tds hd
  obtain ⟨ds, hds⟩ : ∃ ds, ds = kvs.map pr := ⟨_, rfl⟩
  have hdl : ds.length = 3 + w := by rw [hds, List.length_map, hkl]
  obtain ⟨a, r, ha⟩ : ∃ a r, kvs = a :: r := by
    cases kvs with
    | nil => simp at hkl; omega
    | cons a r => exact ⟨a, r, rfl⟩
  obtain ⟨ini, z, hz⟩ : ∃ ini z, kvs = ini ++ [z] := ⟨_, _, (List.dropLast_concat_getLast (l := kvs) (by rw [ha]; simp)).symm⟩
  have i0 : atI ds 0 = some (pr a) := by rw [hds, ha]; simp
  have im1 : atI ds (-1) = some (pr z) := by
    rw [hds, hz, List.map_append]
    exact atI_m1
  rw [← hds] at tds tdm ⊢
  simp [i0, im1]
  refine t_draw hp2 (by omega) (by omega) (by omega) fun pen3 at_ hp3 at0 at1 => ?_
  obtain ⟨at_, rfl⟩ : ∃ k : Nat, at_ = k := ⟨at_.toNat, by omega⟩
  simp
  refine t_pairs (mny := 64) hp3 (by omega) (by omega) fun pen4 fvs hp4 hfs => ?_
  have hfl : fvs.length = 64 := hfs.len
  have tfs := hfs.tame (by omega)
  obtain ⟨fs, hfd⟩ : ∃ fs, fs = fvs.map pr := ⟨_, rfl⟩
  rw [← hfd] at tfs ⊢
  obtain ⟨wv, iat, hwm⟩ : ∃ wv, atI ds (at_ : Int) = some (pr wv) ∧ wv ∈ kvs := by
    obtain ⟨x, h1, h2⟩ := atI_some (xs := ds) at0 at1
    rw [hds] at h2
    obtain ⟨wv, h3, rfl⟩ := List.mem_map.mp h2
    exact ⟨wv, h1, h3⟩
  have hka : isK (.str a.1) = true := hps.ky (by rw [ha]; simp)
  have hkz : isK (.str z.1) = true := hps.ky (by rw [hz]; simp)
  have hkw := hps.ky hwm
  have hvw := hps.vl wv hwm
  have tas : tame (.tup [.str s3, .str a.1, .str z.1]) = true := by simp [tame_t, tm_s3, ky_tame hka, ky_tame hkz]
  have tas2 : tame (.tup [.str s3, .str z.1, .str a.1]) = true := by simp [tame_t, tm_s3, ky_tame hka, ky_tame hkz]
  have tas3 : tame (.tup [.str s3, .str s10, .str s11]) = true := by decide
  have tt : tame (.tup (ds.take at_)) = true := tame_mk (by rw [List.length_take]; omega) fun d hd => tdm d (List.mem_of_mem_take hd)
  have td : tame (.tup (ds.drop at_)) = true := tame_mk (by rw [List.length_drop]; omega) fun d hd => tdm d (List.mem_of_mem_drop hd)
  have tm : tame (.tup ((ds.drop at_).take 1)) = true := tame_mk (by rw [List.length_take]; omega) fun d hd => tdm d (List.mem_of_mem_drop (List.mem_of_mem_take hd))
  have t0 : tame (.tup []) = true := by decide
  have tpw : tame (pr wv) = true := pr_tame hkw hvw
  have c1 : addD (.tup ds) (.tup [.non]) = some (.tup (ds ++ [.non])) := add_tt (by simp; omega)
  have c2 : stpD (.tup ds) (.int (-1)) = some (.tup ds.reverse) := by
    have hsz : (pickD ds (tpIx ds.length (-1))).length ≤ sizeLine := by
      rw [rev_pick (by omega) (by omega), List.length_reverse]
      exact line_le (by omega)
    simp only [stpD]
    rw [if_pos ⟨by decide, by decide, hsz⟩, rev_pick (by omega) (by omega)]
  have c3 : cutL ds (some (-1)) none = [pr z] := by
    rw [hds, hz, List.map_append]
    unfold cutL
    rw [HT.sIx_none]
    have : HT.sIx (List.map pr ini ++ List.map pr [z]).length 0 (some (-1)) = ini.length := by
      show (if (-1 : Int) < 0 then ((-1 : Int) + ((List.map pr ini ++ List.map pr [z]).length : Int)).toNat else min (-1 : Int).toNat (List.map pr ini ++ List.map pr [z]).length) = _
      rw [if_pos (by omega)]
      simp
      omega
    rw [this]
    simp
  have c4 : addD (.tup ds) (.tup [pr z]) = some (.tup (ds ++ [pr z])) := add_tt (by simp; omega)
  have c5 : addD (.tup (ds.take 1)) (.tup ds) = some (.tup (ds.take 1 ++ ds)) := add_tt (by rw [List.length_take]; omega)
  have c6 : addD (pr wv) (.tup [.str s26]) = some (.tup [.str wv.1, .str wv.2, .str s26]) := add_tt (by simp)
  have c7 : listB [pr wv] = some (.lst [.str wv.1, .str wv.2]) := list_t
  have c8 : sliD (pr wv) none (some 1) = some (.tup [.str wv.1]) := by simp [pr]
  have sw : ∀ (x : D) (p : Fr → List Sl → Prop), Fok F_law_swap [.v (.tup ds), .v (.int (at_ : Nat)), .v x] p ↔ p (.dat (.tup (swp ds at_ x))) [.v (.tup ds), .v (.int (at_ : Nat)), .v x] := fun x p => k_swap (by omega)
  simp [tas, tas2, tas3, tt, td, tm, t0, tds, tfs, add_ll, c1, c2, c3, c4, c5, c6, c7, c8, iat, sw]
  refine t_odd_keys hkw fun vs hvs => ?_
  simp
  obtain ⟨b1, r1, hb1⟩ : ∃ b r', r = b :: r' := by
    cases r with
    | nil => rw [ha] at hkl; simp at hkl; omega
    | cons b r => exact ⟨b, r, rfl⟩
  obtain ⟨ini1, y, hy⟩ : ∃ i y, ini = i ++ [y] := by
    have : ini ≠ [] := fun e => by rw [hz, e] at hkl; simp at hkl; omega
    exact ⟨_, _, (List.dropLast_concat_getLast this).symm⟩
  have hd1 : ds = pr a :: pr b1 :: r1.map pr := by rw [hds, ha, hb1]; rfl
  have hd2 : ds = ini1.map pr ++ [pr y, pr z] := by rw [hds, hz, hy]; simp
  have hasc := hps.ks.asc
  have ab : strLt a.1 b1.1 = true := by
    rw [ha, hb1] at hasc
    simp only [List.map_cons, List.pairwise_cons, List.mem_cons] at hasc
    exact hasc.1 _ (.inl rfl)
  have yz : strLt y.1 z.1 = true := by
    rw [hz, hy, List.append_assoc, List.map_append, List.pairwise_append] at hasc
    have := hasc.2.1
    simp only [List.cons_append, List.nil_append, List.map_cons, List.pairwise_cons, List.mem_cons] at this
    exact this.1 _ (.inl rfl)
  have az : strLt a.1 z.1 = true := by
    rw [hz] at hasc ha
    rw [List.map_append, List.pairwise_append] at hasc
    refine hasc.2.2 _ ?_ _ (by simp)
    cases ini with
    | nil => simp at hy
    | cons i ini =>
      cases ha
      simp
  have lo_ok : ∀ kv ∈ kvs, strLt kv.1 a.1 = false := by
    have := hps.ks.asc
    rw [ha] at this ⊢
    exact pw_first this
  have hi_ok : ∀ kv ∈ kvs, strLt z.1 kv.1 = false := by
    have := hps.ks.asc
    rw [hz] at this ⊢
    exact pw_last this
  have nz : isPr (.tup ds) = false := by
    rw [hd1]
    cases r1 with
    | nil => rfl
    | cons c r => rfl
  have odd0 : ∀ d ∈ [D.lst ds, .non, .int 0, .str s7, .bl true, .tup (ds ++ [.non]), .tup ds.reverse, .tup (ds ++ [pr z]), .tup (ds.take 1 ++ ds), .tup [.tup ds], .dct [], .tup (swp ds at_ (.lst [.str wv.1, .str wv.2])), .tup (swp ds at_ (.tup [.str wv.1, .str wv.2, .str s26])), .tup (swp ds at_ .non), .tup (swp ds at_ (.tup [.str wv.1])), .tup (swp ds at_ (.tup [.str wv.1, .non]))],
      tame d = true ∧ isA (.tup [.str s3, .str a.1, .str z.1]) d = false := by
    have tk := ky_tame hkw
    have tv := vl_tame hvw
    have y26 : tame (.str s26) = true := tame_s (by decide)
    have tza : ∀ d ∈ [pr z], tame d = true := fun d hd => by
      rw [List.mem_singleton.mp hd]
      exact pr_tame hkz (hps.vl z (by rw [hz]; simp))
    have tap : ∀ {xs ys : List D}, xs.length + ys.length ≤ 900 → (∀ d ∈ xs, tame d = true) → (∀ d ∈ ys, tame d = true) → tame (.tup (xs ++ ys)) = true := fun {xs ys} h1 h2 h3 => tame_mk (by rw [List.length_append]; omega) fun d hd => (List.mem_append.mp hd).elim (h2 d) (h3 d)
    simp only [List.forall_mem_cons]
    refine ⟨⟨?_, isA_scan_f rfl⟩, ⟨rfl, isA_scan_f rfl⟩, ⟨rfl, isA_scan_f rfl⟩, ⟨rfl, isA_scan_f rfl⟩, ⟨rfl, isA_scan_f rfl⟩, ⟨tap (by simp; omega) tdm (by simp), isA_scan_f (not_prs (d := .non) (by simp) rfl)⟩, ⟨tame_mk (by rw [List.length_reverse]; omega) fun d hd => tdm d (List.mem_reverse.mp hd), isA_scan_f ?_⟩,
      ⟨tap (by simp; omega) tdm tza, isA_scan_f ?_⟩, ⟨tap (by rw [List.length_take]; omega) (fun d hd => tdm d (List.mem_of_mem_take hd)) tdm, isA_scan_f ?_⟩, ⟨by rw [tame_t]; simp [tds], isA_scan_f (not_prs (d := .tup ds) (by simp) nz)⟩, ⟨rfl, isA_scan_f rfl⟩,
      ⟨swp_tame (by omega) tdm (by simp [tame_l, tk, tv]), swp_no rfl⟩, ⟨swp_tame (by omega) tdm (by simp [tame_t, tk, tv, y26]), swp_no rfl⟩, ⟨swp_tame (by omega) tdm rfl, swp_no rfl⟩, ⟨swp_tame (by omega) tdm (by simp [tame_t, tk]), swp_no rfl⟩, ⟨swp_tame (by omega) tdm (by simp [tame_t, tk]), swp_no (by simp [isPr, hkw]; rfl)⟩, by simp⟩
    · rw [tame_t] at tds
      rw [tame_l, tds]
    · rw [hd2, List.reverse_append]
      exact not_adj (xs := []) (lt_as yz)
    · have e : ds ++ [pr z] = (ini1.map pr ++ [pr y]) ++ pr z :: pr z :: [] := by rw [hd2]; simp
      rw [e]
      exact not_adj lt_irr
    · rw [hd1]
      exact not_adj (xs := []) lt_irr
  have hkl6 : ds.length ≤ 6 := by omega
  have tds' : tame (.tup ds) = true := tds
  generalize hod : [D.lst ds, .non, .int 0, .str s7, .bl true, .tup (ds ++ [.non]), .tup ds.reverse, .tup (ds ++ [pr z]), .tup (ds.take 1 ++ ds), .tup [.tup ds], .dct [], .tup (swp ds at_ (.lst [.str wv.1, .str wv.2])), .tup (swp ds at_ (.tup [.str wv.1, .str wv.2, .str s26])), .tup (swp ds at_ .non), .tup (swp ds at_ (.tup [.str wv.1])), .tup (swp ds at_ (.tup [.str wv.1, .non]))] = od at odd0 ⊢
  have hol : od.length = 16 := by rw [← hod]; rfl
  obtain ⟨P, hP⟩ : ∃ P : List D → En → Prop, ∀ rs ρ, P rs ρ ↔ (∃ (odd : List D) (x9 : Sl), odd.length + rs.length ≤ 30 ∧ (∀ d ∈ odd, tame d = true ∧ isA (.tup [.str s3, .str a.1, .str z.1]) d = false) ∧ (∀ d ∈ rs, tame d = true ∧ isK d = false) ∧ (x9 = .no ∨ ∃ d, x9 = .v d) ∧
    ρ = [.own true (.lst pen4), .v (.tup ds), .v (.str a.1), .v (.str z.1), .v (.int (at_ : Nat)), .v (.tup [.str s3, .str a.1, .str z.1]), .v (.tup fs), .own false (.lst (ysT a.1 z.1 ds fs at_)), .own false (.lst odd), x9, .no, .no]) := ⟨_, fun _ _ => Iff.rfl⟩
  refine for_inv P ?_ ?_ ?_
  · exact (hP _ _).mpr ⟨od, _, by have := hvs.len; omega, odd0, hvs.ok, .inl rfl, rfl⟩
  · intro d rs ρ h
    obtain ⟨odd, x9, hl, ho1, hr, hx, rfl⟩ := (hP _ _).mp h
    obtain ⟨hd1, hd2⟩ := hr d (List.mem_cons_self ..)
    rw [List.length_cons] at hl
    have hlk : odd.length < sizeLine := line_lt (by omega)
    simp [iat, sw, hlk]
    refine (hP _ _).mpr ⟨_, _, by rw [List.length_append, List.length_singleton]; omega, ?_, fun d h => hr d (List.mem_cons_of_mem _ h), .inr ⟨_, rfl⟩, rfl⟩
    intro x hx
    rcases List.mem_append.mp hx with hx | hx
    · exact ho1 x hx
    · rw [List.mem_singleton.mp hx]
      exact ⟨swp_tame (by omega) tdm (by simp [tame_t, hd1, vl_tame hvw]), swp_no (by simp [isPr, hd2])⟩
  intro ρ h
  obtain ⟨odd, x9, hl, ho1, hr, hx9, rfl⟩ := (hP _ _).mp h
  clear h hP P hr odd0
  rw [List.length_nil, Nat.add_zero] at hl
  simp [iat]
  refine t_odd_values hvw fun us hus => ?_
  simp
  obtain ⟨P, hP⟩ : ∃ P : List D → En → Prop, ∀ rs ρ, P rs ρ ↔ (∃ (odd : List D) (x9 : Sl), odd.length + rs.length ≤ 50 ∧ (∀ d ∈ odd, tame d = true ∧ isA (.tup [.str s3, .str a.1, .str z.1]) d = false) ∧ (∀ d ∈ rs, tame d = true ∧ nv d = false) ∧ (x9 = .no ∨ ∃ d, x9 = .v d) ∧
    ρ = [.own true (.lst pen4), .v (.tup ds), .v (.str a.1), .v (.str z.1), .v (.int (at_ : Nat)), .v (.tup [.str s3, .str a.1, .str z.1]), .v (.tup fs), .own false (.lst (ysT a.1 z.1 ds fs at_)), .own false (.lst odd), x9, .no, .no]) := ⟨_, fun _ _ => Iff.rfl⟩
  refine for_inv P ?_ ?_ ?_
  · exact (hP _ _).mpr ⟨odd, _, by have := hus.len; omega, ho1, hus.ok, hx9, rfl⟩
  · intro d rs ρ h
    obtain ⟨odd, x9, hl, ho1, hr, hx, rfl⟩ := (hP _ _).mp h
    obtain ⟨hd1, hd2⟩ := hr d (List.mem_cons_self ..)
    rw [List.length_cons] at hl
    have hlk : odd.length < sizeLine := line_lt (by omega)
    simp [iat, sw, hlk]
    refine (hP _ _).mpr ⟨_, _, by rw [List.length_append, List.length_singleton]; omega, ?_, fun d h => hr d (List.mem_cons_of_mem _ h), .inr ⟨_, rfl⟩, rfl⟩
    intro x hx
    have hv : isV d = false := by
      have := hd2
      simp only [nv, Bool.or_eq_false_iff] at this
      exact this.2
    rcases List.mem_append.mp hx with hx | hx
    · exact ho1 x hx
    · rw [List.mem_singleton.mp hx]
      exact ⟨swp_tame (by omega) tdm (by simp [tame_t, hd1, ky_tame hkw]), swp_no (by simp [isPr, hv])⟩
  intro ρ h
  obtain ⟨odd, x9, hl, ho1, hr, hx9, rfl⟩ := (hP _ _).mp h
  clear h hP P hr
  rw [List.length_nil, Nat.add_zero] at hl
  simp
  refine lc_map (fun d => .bl (isA (.tup [.str s3, .str a.1, .str z.1]) d)) (by rcases hx9 with rfl | ⟨d, rfl⟩ <;> simp) (line_le (by omega)) (fun d hd => by simp [tas, (ho1 d hd).1]) ?_
  have i1 : atI ds 1 = some (pr b1) := by rw [hd1]; simp
  have im2 : atI ds (-2) = some (pr y) := by
    rw [hd2]
    unfold atI ixN
    rw [if_neg (by omega), if_pos (by simp only [List.length_append, List.length_cons, List.length_nil]; omega)]
    have : ((-2 : Int) + ((ini1.map pr ++ [pr y, pr z]).length : Int)).toNat = (ini1.map pr).length := by
      simp only [List.length_append, List.length_cons, List.length_nil]
      omega
    show (ini1.map pr ++ [pr y, pr z])[_]? = _
    rw [this]
    simp
  obtain ⟨fini, fz, hfz⟩ : ∃ i z, fvs = i ++ [z] := by
    have : fvs ≠ [] := fun e => by rw [e] at hfl; simp at hfl
    exact ⟨_, _, (List.dropLast_concat_getLast this).symm⟩
  have ifz : atI fs (-1) = some (pr fz) := by
    rw [hfd, hfz, List.map_append]
    exact atI_m1
  have hfk : isK (.str fz.1) = true := hfs.ky (by rw [hfz]; simp)
  have hfk8 := (ky_iff.mp hfk).2.1
  have hkb : isK (.str b1.1) = true := hps.ky (by rw [ha, hb1]; simp)
  have hky : isK (.str y.1) = true := hps.ky (by rw [hz, hy]; simp)
  have u1 : tame (.tup [.str s3, .str b1.1, .str z.1]) = true := by simp [tame_t, tm_s3, ky_tame hkb, ky_tame hkz]
  have u2 : tame (.tup [.str s3, .str a.1, .str y.1]) = true := by simp [tame_t, tm_s3, ky_tame hka, ky_tame hky]
  have u3 : tame (.lst [.str s3, .str a.1, .str z.1]) = true := by simp [tame_l, tm_s3, ky_tame hka, ky_tame hkz]
  have v1 : sliD (.str fz.1) none (some 6) = some (.str (fz.1.take 6)) := by
    rw [sli_s (by omega)]
    simp
  have v2 : addD (.str (fz.1.take 6)) (.str s27) = some (.str (fz.1.take 6 ++ s27)) := add_ss (by rw [List.length_take]; simp [s27]; omega)
  have hfsl : fs.length = 64 := by rw [hfd, List.length_map, hfl]
  have v3 : addD (.tup (fs.take 64)) (.tup [.tup [.str (fz.1.take 6 ++ s27), .str s26]]) = some (.tup (fs.take 64 ++ [.tup [.str (fz.1.take 6 ++ s27), .str s26]])) := add_tt (by rw [List.length_take]; simp; omega)
  have u4 : tame (.tup (fs.take 64 ++ [.tup [.str (fz.1.take 6 ++ s27), .str s26]])) = true := by
    refine tame_mk (by rw [List.length_append, List.length_take]; simp; omega) fun d hd => ?_
    rcases List.mem_append.mp hd with hd | hd
    · exact tup_in tfs (List.mem_of_mem_take hd)
    · rw [List.mem_singleton.mp hd]
      have y1 : tame (.str (fz.1.take 6 ++ s27)) = true := tame_s (by rw [List.length_append, List.length_take]; simp [s27]; omega)
      have y2 : tame (.str s26) = true := tame_s (by decide)
      simp [tame_t, y1, y2]
  have hno : ∀ d ∈ odd.map fun d => D.bl (isA (.tup [.str s3, .str a.1, .str z.1]) d), d = .bl false := fun d hd => by
    obtain ⟨x, hx, rfl⟩ := List.mem_map.mp hd
    rw [(ho1 x hx).2]
  have hnl : (odd.map fun d => D.bl (isA (.tup [.str s3, .str a.1, .str z.1]) d)).length ≤ 50 := by rw [List.length_map]; exact hl
  generalize (odd.map fun d => D.bl (isA (.tup [.str s3, .str a.1, .str z.1]) d)) = nos at hno hnl ⊢
  have w1 : ∀ x y : D, addD (.lst nos) (.lst [x, y]) = some (.lst (nos ++ [x, y])) := fun x y => add_ll (by simp; omega)
  have w2 : ∀ x y z w : D, addD (.lst (nos ++ [x, y])) (.lst [z, w]) = some (.lst (nos ++ [x, y, z, w])) := fun x y z w => by
    rw [add_ll (by simp; omega)]
    simp
  have w3 : ∀ x y z w u v : D, addD (.lst (nos ++ [x, y, z, w])) (.lst [u, v]) = some (.lst (nos ++ [x, y, z, w, u, v])) := fun x y z w u v => by
    rw [add_ll (by simp; omega)]
    simp
  simp [i1, im2, u1, u2, u3, u4, v1, v2, v3, ifz, tas, tas2, tas3, tds, tm, w1, w2, w3]
  have n1 : isA (.tup [.str s3, .str b1.1, .str z.1]) (.tup ds) = false := isA_scan_f (not_betw (d := pr a) (by rw [hd1]; simp) (by simp [betw, pk, pr, ab]))
  have n2 : isA (.tup [.str s3, .str a.1, .str y.1]) (.tup ds) = false := isA_scan_f (not_betw (d := pr z) (by rw [hd2]; simp) (by simp [betw, pk, pr, yz]))
  have n3 : isA (.tup [.str s3, .str z.1, .str a.1]) (.tup ds) = false := isA_scan_f (not_betw (d := pr a) (by rw [hd1]; simp) (by simp [betw, pk, pr, az]))
  have hmid : (ds.drop at_).take 1 = [pr wv] := by
    have h := iat
    rw [atI_n] at h
    obtain ⟨hlt, he⟩ := List.getElem?_eq_some_iff.mp h
    rw [List.drop_eq_getElem_cons hlt, he]
    rfl
  have n4 : isA (.tup [.str s3, .str z.1, .str a.1]) (.tup ((ds.drop at_).take 1)) = false := by
    rw [hmid]
    refine isA_scan_f (not_betw (d := pr wv) (by simp) ?_)
    cases h1 : strLt wv.1 z.1 with
    | true => simp [betw, pk, pr, h1]
    | false =>
      cases h2 : strLt a.1 wv.1 with
      | true => simp [betw, pk, pr, h2]
      | false =>
        rw [nlt_tr h1 h2] at az
        cases az
  have n5 : isA (.tup [.str s3, .str s10, .str s11]) (.tup (fs.take 64 ++ [.tup [.str (fz.1.take 6 ++ s27), .str s26]])) = false := isA_scan_f (by
    have : ¬ ((fs.take 64 ++ [D.tup [.str (fz.1.take 6 ++ s27), .str s26]]).length ≤ 64) := by
      rw [List.length_append, List.length_take, List.length_singleton]
      omega
    simp only [arePrs, decide_eq_false this, Bool.false_and])
  have n6 : isA (.lst [.str s3, .str a.1, .str z.1]) (.tup ds) = false := by simp [isA, isQ]
  have lz : strLt z.1 a.1 = false := lt_as az
  have sub : ∀ {kvs' : List (List Nat × List Nat)}, kvs'.Sublist kvs → isA (.tup [.str s3, .str a.1, .str z.1]) (.tup (kvs'.map pr)) = true := fun {kvs'} hs =>
    isA_scan hka hkz ((hps.sub hs).are (by have := hs.length_le; omega) fun kv hkv => ⟨lo_ok kv (hs.subset hkv), hi_ok kv (hs.subset hkv)⟩)
  refine fin_ok rfl rfl ?_ ?_ ?_ ?_ ?_
  · have e1 : isA (.tup [.str s3, .str a.1, .str z.1]) (.tup ds) = true := by
      rw [hds]
      exact sub (List.Sublist.refl _)
    have e2 : isA (.tup [.str s3, .str a.1, .str z.1]) (.tup (ds.take at_)) = true := by
      rw [hds, ← List.map_take]
      exact sub (List.take_sublist _ _)
    have e3 : isA (.tup [.str s3, .str a.1, .str z.1]) (.tup (ds.drop at_)) = true := by
      rw [hds, ← List.map_drop]
      exact sub (List.drop_sublist _ _)
    have e4 : isA (.tup [.str s3, .str a.1, .str z.1]) (.tup []) = true := sub (List.nil_sublist _)
    have e5 : isA (.tup [.str s3, .str z.1, .str a.1]) (.tup []) = true := isA_scan hkz hka rfl
    have e6 : isA (.tup [.str s3, .str s10, .str s11]) (.tup fs) = true := by
      rw [hfd]
      exact isA_scan (by decide) (by decide) (hfs.are (by omega) fun kv hkv => ⟨ge_a (hfs.ky hkv), le_z (hfs.ky hkv)⟩)
    have e7 : isA (.tup [.str s3, .str a.1, .str z.1]) (.tup ((ds.drop at_).take 1)) = true := by
      rw [hds, ← List.map_drop, ← List.map_take]
      exact sub ((List.take_sublist _ _).trans (List.drop_sublist _ _))
    unfold ysT
    rw [e1, e2, e3, e4, e5, e6, e7]
    simp
  · intro d hd
    rcases List.mem_append.mp hd with hd | hd
    · exact hno d hd
    · rw [n1, n2, n3, n4, n5, n6] at hd
      simpa using hd
  · simp [ysT]
  · simp
    omega
  · simp
    exact k _ (hp4.mono (by omega))
end Lwk11
set_option Elab.async false
set_option linter.all false
set_option maxRecDepth 100000
set_option maxHeartbeats 2000000
namespace Lwk11
open PySem L2 Mi
theorem isA_nq {q v : D} (h : isQ q = false) : isA q v = false := by simp [isA, h]
theorem isA_get_f {k : List Nat} {v : D} (h : nv v = false) : isA (.tup [.str s4, .str k]) v = false := by
  have : (isNon v || isV v) = false := h
  simp [isA, this]
theorem isA_count_f {v : D} (h : isBelow v 65 = false) : isA (.tup [.str s2]) v = false := by simp [isA, h, n24, n23]
theorem below_f {d : D} {n m : Int} (h : btw 0 n d = false) (e : m = n + 1) : isBelow d m = false := by
  subst e
  cases d with
  | int i =>
    simp [btw, isBelow] at h ⊢
    omega
  | _ => rfl
def NoL (n : Nat) (ds : List D) : Prop := ds.length ≤ n ∧ ∀ d ∈ ds, d = .bl false
theorem nol_map {f : D → Bool} {ds : List D} {n : Nat} (hl : ds.length ≤ n) (h : ∀ d ∈ ds, f d = false) : NoL n (ds.map fun d => .bl (f d)) :=
  ⟨by rw [List.length_map]; exact hl, fun d hd => by
    obtain ⟨x, hx, rfl⟩ := List.mem_map.mp hd
    rw [h x hx]⟩
theorem NoL.app {n m : Nat} {a b : List D} (h : NoL n a) (h2 : NoL m b) : NoL (n + m) (a ++ b) := ⟨by rw [List.length_append]; have := h.1; have := h2.1; omega, fun d hd => (List.mem_append.mp hd).elim (h.2 d) (h2.2 d)⟩
theorem NoL.mono {n m : Nat} {a : List D} (h : NoL n a) (h2 : n ≤ m) : NoL m a := ⟨Nat.le_trans h.1 h2, h.2⟩
theorem NoL.add {n m : Nat} {a b : List D} (h : NoL n a) (h2 : NoL m b) (hl : n + m ≤ 100000) : addD (.lst a) (.lst b) = some (.lst (a ++ b)) := add_ll (by have := h.1; have := h2.1; omega)
theorem t_answers_right {n : Nat} {pen : List D} {p : Fr → List Sl → Prop} (hp : PenOk n pen) (hn : n + 20 ≤ lim) (k : ∀ pen', PenOk (n + 20) pen' → p (.dat (.bl true)) [.own true (.lst pen')]) :
    Fok F_law_answers_right [.own true (.lst pen)] p := by
  refine fok_run rfl rfl ?_
  rw [cc_law_answers_right]
  simp
  refine t_key hp (by omega) fun pen1 key hp1 hk => ?_
  simp
  refine t_value hp1 (by omega) fun pen2 tx hp2 ht => ?_
  have tk := ky_tame hk
  have tt := vl_tame ht
  have q1 : tame (.tup [.str s4, .str key]) = true := by simp [tame_t, tk, tm_s4]
  have q2 : tame (.tup [.str s2]) = true := by simp [tame_t, tm_s2]
  have q3 : tame (.tup [.tup [.str key, .str tx]]) = true := by simp [tame_t, tk, tt]
  have q4 : tame (.tup []) = true := by decide
  have y30 : tame (.str s30) = true := tame_s (by decide)
  simp [q1, q2, q3, q4, tt, y30, add_ll]
  refine t_draw hp2 (by omega) (by omega) (by omega) fun pen3 w hp3 w0 w1 => ?_
  simp [q2, add_ll]
  refine t_odd_values ht fun us hus => ?_
  have hul := hus.len
  simp
  refine lc_map (fun d => .bl (isA (.tup [.str s4, .str key]) d)) (by simp) (line_le (by omega)) (fun d hd => by simp [q1, (hus.ok d hd).1]) ?_
  have hN1 := nol_map (f := fun d => isA (.tup [.str s4, .str key]) d) hul fun d hd => isA_get_f (hus.ok d hd).2
  generalize (us.map fun d => D.bl (isA (.tup [.str s4, .str key]) d)) = N1 at hN1 ⊢
  simp
  refine t_odd_numbers (lo := 0) (hi := 64) (by omega) (by omega) (by omega) (by omega) (sb (by decide)) (sb (by decide)) st0 st64 fun vs hvs => ?_
  have hvl := hvs.len
  have a1 : addD (.lst vs) (.lst [.str tx, .tup []]) = some (.lst (vs ++ [.str tx, .tup []])) := add_ll (by simp; omega)
  simp [a1]
  have tv : ∀ d ∈ vs ++ [D.str tx, .tup []], tame d = true ∧ isBelow d 65 = false := fun d hd => by
    rcases List.mem_append.mp hd with hd | hd
    · exact ⟨(hvs.ok d hd).1, below_f (hvs.ok d hd).2 (by omega)⟩
    · simp only [List.mem_cons, List.not_mem_nil, or_false] at hd
      rcases hd with rfl | rfl
      · exact ⟨tt, rfl⟩
      · exact ⟨q4, rfl⟩
  have hvw : (vs ++ [D.str tx, .tup []]).length ≤ 14 := by simp; omega
  generalize vs ++ [D.str tx, .tup []] = ws at tv hvw ⊢
  refine lc_map (fun d => .bl (isA (.tup [.str s2]) d)) (by simp) (line_le (by omega)) (fun d hd => by simp [q2, (tv d hd).1]) ?_
  have hN2 := nol_map (f := fun d => isA (.tup [.str s2]) d) hvw fun d hd => isA_count_f (tv d hd).2
  generalize (ws.map fun d => D.bl (isA (.tup [.str s2]) d)) = N2 at hN2 ⊢
  have hN := hN1.app hN2
  have n1 : isA (.tup [.str s4, .str key]) (.tup []) = false := isA_get_f rfl
  have n2 : isA (.tup [.str s4, .str key]) (.tup [.tup [.str key, .str tx]]) = false := isA_get_f rfl
  have n3 : isA (.tup [.str s2]) (.tup [.tup [.str key, .str tx]]) = false := isA_count_f rfl
  have w2 := hN.add (b := [.bl false, .bl false, .bl false]) ⟨Nat.le_refl 3, by simp⟩ (by omega)
  have hM := hN.app (b := [.bl false, .bl false, .bl false]) ⟨Nat.le_refl 3, by simp⟩
  simp only [List.append_assoc] at w2 hM
  simp [hN1.add hN2 (by omega), q1, q2, q3, q4, n1, n2, n3, w2]
  generalize N1 ++ (N2 ++ [.bl false, .bl false, .bl false]) = N at hM ⊢
  have y29 : tame (.str s29) = true := tame_s (by decide)
  have y28 : tame (.str s28) = true := tame_s (by decide)
  obtain ⟨P, hP⟩ : ∃ P : List D → En → Prop, ∀ rs ρ, P rs ρ ↔ (∃ (no : List D) (x6 : Sl), no.length + 4 * rs.length ≤ 100 ∧ (∀ d ∈ no, d = .bl false) ∧ (∀ d ∈ rs, tame d = true ∧ isQ d = false) ∧
    ρ = [.own true (.lst pen3), .v (.str key), .v (.str tx), .v (.tup [.str s2]), .own false (.lst [.bl (isA (.tup [.str s4, .str key]) .non), .bl (isA (.tup [.str s4, .str key]) (.str tx)), .bl (isA (.tup [.str s4, .str key]) (.str s30)), .bl (isA (.tup [.str s2]) (.int 0)), .bl (isA (.tup [.str s2]) (.int 64)), .bl (isA (.tup [.str s2]) (.int w))]), .own false (.lst no), x6]) := ⟨_, fun _ _ => Iff.rfl⟩
  refine for_inv P ?_ ?_ ?_
  · refine (hP _ _).mpr ⟨N, _, by have := hM.1; simp; omega, hM.2, ?_, rfl⟩
    have kk : isK (.str s29) = false := by decide
    have e28 : ¬ s28 = s4 ∧ ¬ s28 = s3 ∧ ¬ s28 = s2 := by decide
    simp [tame_t, tame_l, tm_s2, tm_s4, y29, y28, tk, isQ, n24, n23, kk, e28]
  · intro d rs ρ h
    obtain ⟨no, x6, hl, ho, hr, rfl⟩ := (hP _ _).mp h
    obtain ⟨hd1, hd2⟩ := hr d (List.mem_cons_self ..)
    rw [List.length_cons] at hl
    have a2 := add_ll (xs := no) (ys := [.bl false, .bl false, .bl false, .bl false]) (by simp; omega)
    simp [hd1, tt, q4, isA_nq hd2, a2]
    refine (hP _ _).mpr ⟨_, _, by rw [List.length_append]; simp; omega, ?_, fun d h => hr d (List.mem_cons_of_mem _ h), rfl⟩
    intro x hx
    rcases List.mem_append.mp hx with hx | hx
    · exact ho x hx
    · simpa using hx
  intro ρ h
  obtain ⟨no, x6, hl, ho, hr, rfl⟩ := (hP _ _).mp h
  simp
  refine fin_ok rfl rfl ?_ ho ?_ ?_ ?_
  · have e1 : isA (.tup [.str s4, .str key]) .non = true := isA_get hk (.inl rfl)
    have e2 : isA (.tup [.str s4, .str key]) (.str tx) = true := isA_get hk (.inr ht)
    have e3 : isA (.tup [.str s4, .str key]) (.str s30) = true := isA_get hk (.inr (by decide))
    have e4 : isA (.tup [.str s2]) (.int 0) = true := isA_count rfl
    have e5 : isA (.tup [.str s2]) (.int 64) = true := isA_count rfl
    have e6 : isA (.tup [.str s2]) (.int w) = true := isA_count (by simp [isBelow, w0, w1])
    simp [e1, e2, e3, e4, e5, e6]
  · simp
  · simp at hl
    omega
  · simp
    exact k _ (hp3.mono (by omega))
end Lwk11
set_option Elab.async false
set_option linter.all false
set_option maxRecDepth 100000
set_option maxHeartbeats 2000000
namespace Lwk11
open PySem L2 Mi
theorem isA_odd {q v : D} (h1 : nv v = false) (h2 : ∀ lo hi, arePrs v lo hi = false) (h3 : isBelow v 65 = false) : isA q v = false := by
  cases hq : isQ q with
  | false => exact isA_nq hq
  | true =>
    rcases isQ_cases hq with ⟨k, rfl, hk⟩ | ⟨a, b, rfl, ha, hb⟩ | rfl
    · exact isA_get_f h1
    · exact isA_scan_f (h2 _ _)
    · exact isA_count_f h3
theorem isA_q {q v : D} (h : isA q v = true) : isQ q = true := by
  unfold isA at h
  exact (Bool.and_eq_true _ _ ▸ h).1
theorem isA_notQ {q v : D} (h : isA q v = true) : isQ v = false := by
  cases hv : isQ v with
  | false => rfl
  | true =>
    have hq := isA_q h
    have : isA q v = false := by
      rcases isQ_cases hv with ⟨k, rfl, hk⟩ | ⟨a, b, rfl, ha, hb⟩ | rfl
      · exact isA_odd rfl (fun lo hi => not_prs (d := .str s4) (by simp) rfl) rfl
      · exact isA_odd rfl (fun lo hi => not_prs (d := .str s3) (by simp) rfl) rfl
      · exact isA_odd rfl (fun lo hi => not_prs (d := .str s2) (by simp) rfl) rfl
    rw [h] at this
    cases this
theorem isQ_more {q : List D} {x : D} (h : isQ (.tup q) = true) : isQ (.tup (q ++ [x])) = false := by
  rcases isQ_cases h with ⟨k, h, hk⟩ | ⟨a, b, h, ha, hb⟩ | h <;> cases h
  · simp [isQ]
  · simp [isQ, n34]
  · simp [isQ, n24, n23]
theorem isQ_tp {q : D} (h : isQ q = true) : ∃ qs, q = .tup qs ∧ qs.length ≤ 3 := by
  rcases isQ_cases h with ⟨k, rfl, hk⟩ | ⟨a, b, rfl, ha, hb⟩ | rfl
  · exact ⟨_, rfl, by simp⟩
  · exact ⟨_, rfl, by simp⟩
  · exact ⟨_, rfl, by simp⟩
theorem t_notes_right {n : Nat} {pen : List D} {p : Fr → List Sl → Prop} (hp : PenOk n pen) (hn : n + 510 ≤ lim) (k : ∀ pen', PenOk (n + 510) pen' → p (.dat (.bl true)) [.own true (.lst pen')]) :
    Fok F_law_notes_right [.own true (.lst pen)] p := by
  refine fok_run rfl rfl ?_
  rw [cc_law_notes_right]
  simp
  refine t_asked hp (by omega) fun pen1 q a hp1 hA hq ha => ?_
  obtain ⟨qs, rfl, hqs⟩ := isQ_tp (isA_q hA)
  simp
  refine t_draw hp1 (by omega) (by omega) (by omega) fun pen2 w hp2 w0 w1 => ?_
  simp
  have tn : ∀ {m x y : D}, tame m = true → tame x = true → tame y = true → tame (.tup [m, x, y]) = true := fun {m x y} h1 h2 h3 => by simp [tame_t, h1, h2, h3]
  have tm0 : ∀ d ∈ [D.int 0, .int 999999, .int w], tame d = true ∧ isBelow d 1000000 = true := by simp [isBelow, w0, w1]
  have hml : [D.int 0, .int 999999, .int w].length = 3 := rfl
  generalize [D.int 0, .int 999999, .int w] = ms at tm0 hml ⊢
  refine lc_map (fun d => .bl (isN (.tup [d, .tup qs, a]))) (by simp) (line_le (by omega)) (fun d hd => by simp [tn (tm0 d hd).1 hq ha]) ?_
  have hY : ∀ d ∈ ms.map fun d => D.bl (isN (.tup [d, .tup qs, a])), d = .bl true := fun d hd => by
    obtain ⟨x, hx, rfl⟩ := List.mem_map.mp hd
    simp [isN, (tm0 x hx).2, hA]
  have hYl : (ms.map fun d => D.bl (isN (.tup [d, .tup qs, a]))).length = 3 := by rw [List.length_map, hml]
  generalize (ms.map fun d => D.bl (isN (.tup [d, .tup qs, a]))) = Y at hY hYl ⊢
  have hlk : Y.length < sizeLine := line_lt (by omega)
  simp [tn (m := .int 7) rfl hq ha, hlk]
  refine t_odd_numbers (lo := 0) (hi := 999999) (by omega) (by omega) (by omega) (by omega) (sb (by decide)) (sb (by decide)) st0 st9 fun vs hvs => ?_
  have hvl := hvs.len
  simp
  refine lc_map (fun d => .tup [d, .tup qs, a]) (by simp) (line_le (by omega)) (fun d hd => by simp) ?_
  have hO : ∀ d ∈ vs.map fun d => D.tup [d, .tup qs, a], tame d = true ∧ isN d = false := fun d hd => by
    obtain ⟨x, hx, rfl⟩ := List.mem_map.mp hd
    exact ⟨tn (hvs.ok x hx).1 hq ha, by simp [isN, below_f (hvs.ok x hx).2 (m := 1000000) (by omega)]⟩
  have hOl : (vs.map fun d => D.tup [d, .tup qs, a]).length ≤ 12 := by rw [List.length_map]; exact hvl
  generalize (vs.map fun d => D.tup [d, .tup qs, a]) = O at hO hOl ⊢
  have al : ∀ {xs ys : List D}, xs.length ≤ 100 → ys.length ≤ 100 → addD (.lst xs) (.lst ys) = some (.lst (xs ++ ys)) := fun {xs ys} h1 h2 => add_ll (by omega)
  have c1 : addD (.tup qs) (.tup [.str s10]) = some (.tup (qs ++ [.str s10])) := add_tt (by simp; omega)
  obtain ⟨L1, hL1⟩ : ∃ L, L = [D.lst [.int 3, .tup qs, a], .tup [.int 3, .tup qs], .tup [.int 3, .tup qs, a, .non], .tup [.tup qs, .int 3, a], .non, .tup [], .tup [.int 3], .int 3, .str s7, .dct []] := ⟨_, rfl⟩
  obtain ⟨L2, hL2⟩ : ∃ L, L = [D.tup [.int 3, .lst qs, a], .tup [.int 3, .tup (qs ++ [.str s10]), a], .tup [.int 3, a, .tup qs], .tup [.int 3, .tup qs, .lst [a]]] := ⟨_, rfl⟩
  obtain ⟨L3, hL3⟩ : ∃ L, L = [D.tup [.int 3, .tup qs, .bl true], .tup [.int 3, .non, .non], .tup [.int 3, .tup [.str s4, .str s29], .non], .tup [.int 3, .tup qs, .int (-1)], .tup [.tup [.int 3, .tup qs, a]]] := ⟨_, rfl⟩
  obtain ⟨L4, hL4⟩ : ∃ L, L = [D.tup [.int 3, .tup qs, .str s15], .tup [.int 3, .tup qs, .tup [.non]], .tup [.int 3, .tup qs, .int 65]] := ⟨_, rfl⟩
  have l1 : L1.length = 10 := by rw [hL1]; rfl
  have l2 : L2.length = 4 := by rw [hL2]; rfl
  have l3 : L3.length = 5 := by rw [hL3]; rfl
  have l4 : L4.length = 3 := by rw [hL4]; rfl
  have ok1 : ∀ d ∈ L1, tame d = true ∧ isN d = false := by
    rw [hL1]
    simp only [List.forall_mem_cons]
    have y7 : tame (.str s7) = true := tame_s (by decide)
    simp [tame_t, tame_l, isN, hq, ha, isBelow, y7]
  have tl : tame (.lst qs) = true := by
    rw [tame_t] at hq
    rw [tame_l, hq]
  have t1 : tame (.tup (qs ++ [.str s10])) = true := tame_mk (by simp; omega) fun d hd => (List.mem_append.mp hd).elim (tup_in hq) fun h => by
    rw [List.mem_singleton.mp h]
    exact tame_s (by decide)
  have n0 : ∀ {x y : D}, isA x y = false → isN (.tup [.int 3, x, y]) = false := fun {x y} h => by simp [isN, h]
  have y15 : tame (.str s15) = true := tame_s (by decide)
  have y29 : tame (.str s29) = true := tame_s (by decide)
  have ok2 : ∀ d ∈ L2, tame d = true ∧ isN d = false := by
    rw [hL2]
    simp only [List.forall_mem_cons]
    exact ⟨⟨tn rfl tl ha, n0 (isA_nq rfl)⟩, ⟨tn rfl t1 ha, n0 (isA_nq (isQ_more (isA_q hA)))⟩, ⟨tn rfl ha hq, n0 (isA_nq (isA_notQ hA))⟩, ⟨tn rfl hq (by simp [tame_l, ha]), n0 (isA_odd rfl (fun _ _ => rfl) rfl)⟩, by simp⟩
  have ok3 : ∀ d ∈ L3, tame d = true ∧ isN d = false := by
    rw [hL3]
    simp only [List.forall_mem_cons]
    exact ⟨⟨tn rfl hq rfl, n0 (isA_odd rfl (fun _ _ => rfl) rfl)⟩, ⟨tn rfl rfl rfl, n0 (isA_nq rfl)⟩, ⟨tn rfl (by simp [tame_t, tm_s4, y29]) rfl, n0 (isA_nq (by decide))⟩, ⟨tn rfl hq rfl, n0 (isA_odd rfl (fun _ _ => rfl) (by decide))⟩, ⟨by simp [tame_t (b := [.tup [.int 3, .tup qs, a]]), tn (m := .int 3) rfl hq ha], rfl⟩, by simp⟩
  have ok4 : ∀ d ∈ L4, tame d = true ∧ isN d = false := by
    rw [hL4]
    simp only [List.forall_mem_cons]
    exact ⟨⟨tn rfl hq y15, n0 (isA_odd (by decide) (fun _ _ => rfl) rfl)⟩, ⟨tn rfl hq (by simp [tame_t]), n0 (isA_odd rfl (fun lo hi => not_prs (d := .non) (by simp) rfl) rfl)⟩, ⟨tn rfl hq rfl, n0 (isA_odd rfl (fun _ _ => rfl) (by decide))⟩, by simp⟩
  have a1 := al (xs := O) (ys := L1) (by omega) (by omega)
  have a2 := al (xs := O ++ L1) (ys := L2) (by simp; omega) (by omega)
  have a3 := al (xs := O ++ L1 ++ L2) (ys := L3) (by simp; omega) (by omega)
  have a4 := al (xs := O ++ L1 ++ L2 ++ L3) (ys := L4) (by simp; omega) (by omega)
  simp only [List.append_assoc] at a2 a3 a4
  simp [← hL1, a1, ← hL2, a2, c1]
  simp [← hL3, a3]
  simp [← hL4, a4]
  have okA : ∀ d ∈ O ++ (L1 ++ (L2 ++ (L3 ++ L4))), tame d = true ∧ isN d = false := fun d hd => by
    rcases List.mem_append.mp hd with hd | hd
    · exact hO d hd
    rcases List.mem_append.mp hd with hd | hd
    · exact ok1 d hd
    rcases List.mem_append.mp hd with hd | hd
    · exact ok2 d hd
    rcases List.mem_append.mp hd with hd | hd
    · exact ok3 d hd
    · exact ok4 d hd
  have okl : (O ++ (L1 ++ (L2 ++ (L3 ++ L4)))).length ≤ 60 := by
    simp only [List.length_append]
    omega
  generalize O ++ (L1 ++ (L2 ++ (L3 ++ L4))) = A at okA okl ⊢
  refine lc_map (fun d => .bl (isN d)) (by simp) (line_le (by omega)) (fun d hd => by simp [(okA d hd).1]) ?_
  have hN := nol_map (f := isN) okl fun d hd => (okA d hd).2
  generalize (A.map fun d => D.bl (isN d)) = N at hN ⊢
  simp
  refine fin_ok rfl rfl ?_ hN.2 ?_ ?_ ?_
  · intro d hd
    rcases List.mem_append.mp hd with hd | hd
    · exact hY d hd
    · rw [List.mem_singleton.mp hd]
      simp [isN, isBelow, hA]
  · simp
    omega
  · have := hN.1
    omega
  · simp
    exact k _ (hp2.mono (by omega))
end Lwk11
set_option Elab.async false
set_option linter.all false
set_option maxRecDepth 100000
set_option maxHeartbeats 2000000
namespace Lwk11
open PySem L2 Mi
def orS6 : Ss := (.cons (.asg 7 (.tup (.cons (.tup (.cons (.con (.int 999999)) (.cons (.tup (.cons (.con (.str s2)) .nil)) (.cons (.con (.int 0)) .nil)))) (.cons (.tup (.cons (.con (.int 999998)) (.cons (.tup (.cons (.con (.str s2)) .nil)) (.cons (.con (.int 0)) .nil)))) (.cons (.tup (.cons (.con (.int 999999)) (.cons (.tup (.cons (.con (.str s2)) .nil)) (.cons (.con (.int 0)) .nil)))) .nil))))) (.cons (.asg 4 (.op .add (.var 4) (.lst (.cons (.op .add (.var 3) (.tup (.cons (.op .add (.var 2) (.var 7)) .nil))) (.cons (.op .add (.var 3) (.tup (.cons (.op .add (.var 2) (.sli (.var 7) .no (.so (.con (.int 2))))) .nil))) (.cons (.op .add (.var 3) (.tup (.cons (.op .add (.tup (.cons (.tup (.cons (.con (.int 1)) (.cons (.tup (.cons (.con (.str s2)) .nil)) (.cons (.con (.int 0)) .nil)))) .nil)) (.tup (.cons (.tup (.cons (.con (.int 0)) (.cons (.tup (.cons (.con (.str s2)) .nil)) (.cons (.con (.int 0)) .nil)))) .nil))) .nil))) .nil)))))) (.cons (.asg 8 (.call F_law_draw (.cons (.var 0) (.cons (.op .add (.bi .len (.cons (.var 2) .nil)) (.con (.int 1))) .nil)) .nil)) (.cons (.for (.seq (.tup (.cons (.con .non) (.cons (.tup .nil) (.cons (.bi .list (.cons (.idx (.var 7) (.con (.int 0))) .nil)) (.cons (.tup (.cons (.con (.int 999999)) (.cons (.tup (.cons (.con (.str s2)) .nil)) (.cons (.con (.int 65)) .nil)))) (.cons (.tup (.cons (.con (.int 999999)) (.cons (.tup (.cons (.con (.str s2)) .nil)) (.cons (.con (.bl true)) .nil)))) (.cons (.tup (.cons (.con (.int 1000000)) (.cons (.tup (.cons (.con (.str s2)) .nil)) (.cons (.con (.int 0)) .nil)))) .nil)))))))) (.nm 6) (.cons (.expr (.app 4 (.op .add (.var 3) (.tup (.cons (.op .add (.op .add (.sli (.var 2) .no (.so (.var 8))) (.tup (.cons (.var 6) .nil))) (.sli (.var 2) (.so (.var 8)) .no)) .nil))))) .nil)) (.cons (.retV 4) .nil)))))
def orS5 : Ss := (.cons (.ite (.cmp .eq (.idx (.var 1) (.con (.int 0))) (.con (.str s5))) (.cons (.asg 4 (.op .add (.var 4) (.lst (.cons (.op .add (.tup (.cons (.con (.str s6)) .nil)) (.sli (.var 1) (.so (.con (.int 1))) .no)) (.cons (.tup (.cons (.con (.str s5)) (.cons (.idx (.var 1) (.con (.int 1))) (.cons (.var 2) .nil)))) .nil))))) .nil) (.cons (.asg 4 (.op .add (.var 4) (.lst (.cons (.op .add (.tup (.cons (.con (.str s5)) .nil)) (.sli (.var 1) (.so (.con (.int 1))) .no)) (.cons (.tup (.cons (.con (.str s6)) (.cons (.idx (.var 1) (.con (.int 1))) (.cons (.idx (.var 1) (.con (.int 1))) (.cons (.var 2) .nil))))) (.cons (.tup (.cons (.con (.str s6)) (.cons (.var 2) (.cons (.idx (.var 1) (.con (.int 1))) .nil)))) .nil)))))) .nil)) orS6)
theorem cc_law_odd_runs : b_law_odd_runs = (.cons (.par [2, 3] (.cons (.idx (.var 1) (.neg (.con (.int 1)))) (.cons (.sli (.var 1) .no (.so (.neg (.con (.int 1))))) .nil))) (.cons (.asg 4 (.lst (.cons (.bi .list (.cons (.var 1) .nil)) (.cons (.op .add (.var 1) (.tup (.cons (.con .non) .nil))) (.cons (.var 3) (.cons (.op .add (.tup (.cons (.up (.idx (.var 1) (.con (.int 0)))) .nil)) (.sli (.var 1) (.so (.con (.int 1))) .no)) (.cons (.op .add (.tup (.cons (.op .add (.idx (.var 1) (.con (.int 0))) (.con (.str s23))) .nil)) (.sli (.var 1) (.so (.con (.int 1))) .no)) (.cons (.sli (.var 1) (.so (.con (.int 1))) .no) (.cons (.con .non) (.cons (.tup .nil) .nil)))))))))) (.cons (.asg 4 (.op .add (.var 4) (.lst (.cons (.op .add (.var 3) (.tup (.cons (.bi .list (.cons (.var 2) .nil)) .nil))) (.cons (.op .add (.var 3) (.tup (.cons (.con .non) .nil))) (.cons (.op .add (.var 3) (.tup (.cons .dic .nil))) (.cons (.op .add (.var 3) (.tup (.cons (.tup (.cons (.var 2) .nil)) .nil))) (.cons (.idx (.var 1) (.con (.int 0))) (.cons (.op .add (.tup (.cons (.con .non) .nil)) (.sli (.var 1) (.so (.con (.int 1))) .no)) .nil))))))))) (.cons (.asg 5 (.bi .int (.cons (.cmp .eq (.idx (.var 1) (.con (.int 0))) (.con (.str s6))) .nil))) (.cons (.for (.seq (.call F_law_odd_numbers (.cons (.var 5) (.cons (.con (.int 999999)) .nil)) .nil)) (.nm 6) (.cons (.expr (.app 4 (.op .add (.op .add (.sli (.var 1) .no (.so (.con (.int 1)))) (.tup (.cons (.var 6) .nil))) (.sli (.var 1) (.so (.con (.int 2))) .no)))) (.cons (.ite (.cmp .eq (.idx (.var 1) (.con (.int 0))) (.con (.str s5))) (.cons (.expr (.app 4 (.op .add (.op .add (.sli (.var 1) .no (.so (.con (.int 2)))) (.tup (.cons (.var 6) .nil))) (.sli (.var 1) (.so (.con (.int 3))) .no)))) .nil) .nil) .nil))) orS5))))) := rfl
def oaS9 : Ss := (.cons (.ite (.and (.cmp .eq (.idx (.idx (.var 4) (.var 5)) (.con (.int 0))) (.con (.str s6))) (.cmp .lt (.bi .len (.cons (.var 4) .nil)) (.con (.int 12)))) (.cons (.expr (.app 7 (.call F_law_swap (.cons (.var 1) (.cons (.var 2) (.cons (.tup (.cons (.var 3) (.cons (.op .add (.var 4) (.tup (.cons (.tup (.cons (.con (.str s6)) (.cons (.idx (.idx (.var 4) (.var 5)) (.con (.int 1))) (.cons (.tup .nil) .nil)))) .nil))) .nil))) .nil))) .nil))) .nil) .nil) (.cons (.retV 7) .nil))
def oaS8 : Ss := (.cons (.ite (.cmp .lt (.bi .len (.cons (.var 1) .nil)) (.con (.int 6))) (.cons (.expr (.app 7 (.op .add (.var 1) (.tup (.cons (.tup (.cons (.var 3) (.cons (.tup (.cons (.var 6) .nil)) .nil))) .nil))))) (.cons (.expr (.app 7 (.op .add (.tup (.cons (.tup (.cons (.var 3) (.cons (.tup (.cons (.var 6) .nil)) .nil))) .nil)) (.var 1)))) (.cons (.ite (.cmp .eq (.idx (.idx (.var 4) (.var 5)) (.con (.int 0))) (.con (.str s6))) (.cons (.expr (.app 7 (.op .add (.var 1) (.tup (.cons (.tup (.cons (.con (.str s11)) (.cons (.tup (.cons (.tup (.cons (.con (.str s6)) (.cons (.idx (.idx (.var 4) (.var 5)) (.con (.int 1))) (.cons (.tup .nil) .nil)))) .nil)) .nil))) .nil))))) .nil) .nil) .nil))) .nil) oaS9)
def oaS7 : Ss := (.cons (.for (.seq (.stp (.call F_law_odd_runs (.cons (.var 0) (.cons (.idx (.var 4) (.var 5)) .nil)) .nil) (.op .add (.con (.int 1)) (.call F_law_draw (.cons (.var 0) (.cons (.con (.int 3)) .nil)) .nil)))) (.nm 8) (.cons (.expr (.app 7 (.call F_law_swap (.cons (.var 1) (.cons (.var 2) (.cons (.tup (.cons (.var 3) (.cons (.call F_law_swap (.cons (.var 4) (.cons (.var 5) (.cons (.var 8) .nil))) .nil) .nil))) .nil))) .nil))) .nil)) oaS8)
def oaS6 : Ss := (.cons (.for (.seq (.call F_law_odd_keys (.cons (.var 0) (.cons (.var 3) .nil)) .nil)) (.nm 8) (.cons (.expr (.app 7 (.call F_law_swap (.cons (.var 1) (.cons (.var 2) (.cons (.tup (.cons (.var 8) (.cons (.var 4) .nil))) .nil))) .nil))) .nil)) oaS7)
def oaS5 : Ss := (.cons (.for (.seq (.tup (.cons (.bi .list (.cons (.idx (.var 1) (.var 2)) .nil)) (.cons (.op .add (.idx (.var 1) (.var 2)) (.tup (.cons (.con .non) .nil))) (.cons (.sli (.idx (.var 1) (.var 2)) .no (.so (.con (.int 1)))) (.cons (.tup (.cons (.var 3) (.cons (.bi .list (.cons (.var 4) .nil)) .nil))) (.cons (.tup (.cons (.var 3) (.cons (.tup .nil) .nil))) (.cons (.con .non) (.cons (.tup .nil) (.cons (.var 3) (.cons (.tup (.cons (.var 4) (.cons (.var 3) .nil))) .nil))))))))))) (.nm 8) (.cons (.expr (.app 7 (.call F_law_swap (.cons (.var 1) (.cons (.var 2) (.cons (.var 8) .nil))) .nil))) .nil)) oaS6)
theorem cc_law_odd_accounts : b_law_odd_accounts = (.cons (.asg 2 (.call F_law_draw (.cons (.var 0) (.cons (.bi .len (.cons (.var 1) .nil)) .nil)) .nil)) (.cons (.asgT (.tup (.cons (.nm 3) (.cons (.nm 4) .nil))) (.idx (.var 1) (.var 2))) (.cons (.asg 5 (.call F_law_draw (.cons (.var 0) (.cons (.bi .len (.cons (.var 4) .nil)) .nil)) .nil)) (.cons (.asg 6 (.tup (.cons (.con (.str s6)) (.cons (.op .sub (.con (.int 1000000)) (.con (.int 1))) (.cons (.tup .nil) .nil))))) (.cons (.asg 7 (.lst (.cons (.bi .list (.cons (.var 1) .nil)) (.cons (.con .non) (.cons (.con (.int 5)) (.cons (.con (.str s7)) (.cons .dic (.cons (.idx (.var 1) (.var 2)) (.cons (.tup (.cons (.var 1) .nil)) (.cons (.tup (.cons (.var 3) .nil)) (.cons (.tup (.cons (.var 4) .nil)) (.cons (.op .add (.op .add (.sli (.var 1) .no (.so (.var 2))) (.sli (.idx (.var 1) (.var 2)) .no (.so (.con (.int 1))))) (.sli (.var 1) (.so (.op .add (.var 2) (.con (.int 1)))) .no)) .nil)))))))))))) oaS5))))) := rfl
end Lwk11
set_option Elab.async false
set_option linter.all false
set_option maxRecDepth 100000
set_option maxHeartbeats 2000000
namespace Lwk11
open PySem L2 Mi
theorem not_ns {ns : List D} {d : D} (hm : d ∈ ns) (h : isN d = false) : areNs (.tup ns) = false := by
  have : ns.all isN = false := by
    rw [List.all_eq_false]
    exact ⟨d, hm, by simp [h]⟩
  simp [areNs, this]
theorem not_asc {xs ys : List D} {a b : D} (h : ¬ nm a ≤ nm b) : areNs (.tup (xs ++ a :: b :: ys)) = false := by
  have : adj (fun a b => decide (nm a ≤ nm b)) (xs ++ a :: b :: ys) = false := by
    cases e : adj (fun a b => decide (nm a ≤ nm b)) (xs ++ a :: b :: ys) with
    | false => rfl
    | true => exact absurd (of_decide_eq_true (adj_app e)) h
  simp [areNs, this]
theorem orS6_ok {n : Nat} {pen : List D} {x1 x5 x6 : Sl} {ns place odd : List D} {Q : Fl → En → Prop} (hp : PenOk n pen) (hn : n + 1 ≤ lim) (hns : ns.length ≤ 100) (tns : tame (.tup ns) = true) (hpl : place.length ≤ 10) (tpl : tame (.tup place) = true)
    (hpo : ∀ x, areNs x = false → isR (.tup (place ++ [x])) = false) (hol : odd.length ≤ 100) (ho : ∀ d ∈ odd, tame d = true ∧ isR d = false)
    (kk : ∀ pen' ds x4 x6 x7 x8, PenOk (n + 1) pen' → ds.length ≤ odd.length + 9 → (∀ d ∈ ds, tame d = true ∧ isR d = false) → Q (.rt (.new (.lst ds))) [.own true (.lst pen'), x1, .v (.tup ns), .v (.tup place), x4, x5, x6, x7, x8]) :
    Okv orS6.ms [.own true (.lst pen), x1, .v (.tup ns), .v (.tup place), .own false (.lst odd), x5, x6, .no, .no] Q := by
  have tc : ∀ {m : Int} {v : D}, tame v = true → tame (.tup [.int m, .tup [.str s2], v]) = true := fun {m v} h => by simp [tame_t, tm_s2, h]
  obtain ⟨l1, hl1⟩ : ∃ l, l = D.tup [.int 999999, .tup [.str s2], .int 0] := ⟨_, rfl⟩
  obtain ⟨l2, hl2⟩ : ∃ l, l = D.tup [.int 999998, .tup [.str s2], .int 0] := ⟨_, rfl⟩
  obtain ⟨l3, hl3⟩ : ∃ l, l = D.tup [.int 1, .tup [.str s2], .int 0] := ⟨_, rfl⟩
  obtain ⟨l4, hl4⟩ : ∃ l, l = D.tup [.int 0, .tup [.str s2], .int 0] := ⟨_, rfl⟩
  have t1 : tame l1 = true := by rw [hl1]; exact tc rfl
  have t2 : tame l2 = true := by rw [hl2]; exact tc rfl
  have t3 : tame l3 = true := by rw [hl3]; exact tc rfl
  have t4 : tame l4 = true := by rw [hl4]; exact tc rfl
  have tap : ∀ {ys : List D}, ys.length ≤ 100 → (∀ d ∈ ys, tame d = true) → tame (.tup (ns ++ ys)) = true := fun {ys} h1 h3 => tame_mk (by rw [List.length_append]; omega) fun d hd => (List.mem_append.mp hd).elim (tup_in tns) (h3 d)
  have tpp : ∀ {y : D}, tame y = true → tame (.tup (place ++ [y])) = true := fun {y} h => tame_mk (by rw [List.length_append, List.length_singleton]; omega) fun d hd => (List.mem_append.mp hd).elim (tup_in tpl) fun h2 => by rw [List.mem_singleton.mp h2]; exact h
  have a1 : addD (.tup ns) (.tup [l1, l2, l1]) = some (.tup (ns ++ [l1, l2, l1])) := add_tt (by simp; omega)
  have a2 : addD (.tup ns) (.tup [l1, l2]) = some (.tup (ns ++ [l1, l2])) := add_tt (by simp; omega)
  have a3 : ∀ y, addD (.tup place) (.tup [y]) = some (.tup (place ++ [y])) := fun y => add_tt (by simp; omega)
  have a4 : addD (.tup [l3]) (.tup [l4]) = some (.tup [l3, l4]) := add_tt (by simp)
  have a5 : ∀ y z w, addD (.lst odd) (.lst [y, z, w]) = some (.lst (odd ++ [y, z, w])) := fun y z w => add_ll (by simp; omega)
  simp [orS6, ← hl1, ← hl2, ← hl3, ← hl4, a1, a2, a3, a4, a5]
  have ho3 : ∀ d ∈ odd ++ [D.tup (place ++ [.tup (ns ++ [l1, l2, l1])]), .tup (place ++ [.tup (ns ++ [l1, l2])]), .tup (place ++ [.tup [l3, l4]])], tame d = true ∧ isR d = false := fun d hd => by
    have n1 : ¬ nm l1 ≤ nm l2 := by rw [hl1, hl2]; decide
    have n2 : ¬ nm l3 ≤ nm l4 := by rw [hl3, hl4]; decide
    rcases List.mem_append.mp hd with hd | hd
    · exact ho d hd
    · simp only [List.mem_cons, List.not_mem_nil, or_false] at hd
      rcases hd with rfl | rfl | rfl
      · exact ⟨tpp (tap (by simp) (by simp [t1, t2])), hpo _ (not_asc n1)⟩
      · exact ⟨tpp (tap (by simp) (by simp [t1, t2])), hpo _ (not_asc n1)⟩
      · exact ⟨tpp (by simp [tame_t, t3, t4]), hpo _ (not_asc (xs := []) n2)⟩
  have hl3' : (odd ++ [D.tup (place ++ [.tup (ns ++ [l1, l2, l1])]), .tup (place ++ [.tup (ns ++ [l1, l2])]), .tup (place ++ [.tup [l3, l4]])]).length = odd.length + 3 := by simp
  generalize (odd ++ [D.tup (place ++ [.tup (ns ++ [l1, l2, l1])]), .tup (place ++ [.tup (ns ++ [l1, l2])]), .tup (place ++ [.tup [l3, l4]])]) = od at ho3 hl3' ⊢
  refine t_draw hp (by omega) (by omega) (by omega) fun pen1 at_ hp1 at0 at1 => ?_
  obtain ⟨at_, rfl⟩ : ∃ k : Nat, at_ = k := ⟨at_.toNat, by omega⟩
  have b1 : listB [l1] = some (.lst [.int 999999, .tup [.str s2], .int 0]) := by rw [hl1]; simp
  simp [b1]
  obtain ⟨P, hP⟩ : ∃ P : List D → En → Prop, ∀ rs ρ, P rs ρ ↔ (∃ (od : List D) (x6 : Sl), od.length + rs.length ≤ odd.length + 9 ∧ (∀ d ∈ od, tame d = true ∧ isR d = false) ∧ (∀ d ∈ rs, tame d = true ∧ isN d = false) ∧
    ρ = [.own true (.lst pen1), x1, .v (.tup ns), .v (.tup place), .own false (.lst od), x5, x6, .v (.tup [l1, l2, l1]), .v (.int (at_ : Nat))]) := ⟨_, fun _ _ => Iff.rfl⟩
  refine for_inv P ?_ ?_ ?_
  · refine (hP _ _).mpr ⟨od, _, by simp; omega, ho3, ?_, rfl⟩
    simp [tame_t, tame_l, tm_s2, isN, isA, isQ, n24, n23, isBelow]
  · intro d rs ρ h
    obtain ⟨od, x6, hl, ho, hr, rfl⟩ := (hP _ _).mp h
    obtain ⟨hd1, hd2⟩ := hr d (List.mem_cons_self ..)
    rw [List.length_cons] at hl
    have c1 : addD (.tup (ns.take at_)) (.tup [d]) = some (.tup (ns.take at_ ++ [d])) := add_tt (by rw [List.length_take]; simp; omega)
    have c2 : addD (.tup (ns.take at_ ++ [d])) (.tup (ns.drop at_)) = some (.tup (ns.take at_ ++ d :: ns.drop at_)) := by
      rw [add_tt (by rw [List.length_append, List.length_take, List.length_drop]; simp; omega)]
      simp
    have hlk : od.length < sizeLine := line_lt (by omega)
    simp [c1, c2, a3, hlk]
    refine (hP _ _).mpr ⟨_, _, by rw [List.length_append, List.length_singleton]; omega, ?_, fun d h => hr d (List.mem_cons_of_mem _ h), rfl⟩
    intro x hx
    rcases List.mem_append.mp hx with hx | hx
    · exact ho x hx
    · rw [List.mem_singleton.mp hx]
      refine ⟨tpp (tame_mk (by rw [List.length_append, List.length_take, List.length_cons, List.length_drop]; omega) fun y hy => ?_), hpo _ (not_ns (d := d) (by simp) hd2)⟩
      rcases List.mem_append.mp hy with hy | hy
      · exact tup_in tns (List.mem_of_mem_take hy)
      · rcases List.mem_cons.mp hy with rfl | hy
        · exact hd1
        · exact tup_in tns (List.mem_of_mem_drop hy)
  intro ρ h
  obtain ⟨od, x6, hl, ho, hr, rfl⟩ := (hP _ _).mp h
  simp
  exact kk _ _ _ _ _ _ hp1 (by simpa using hl) ho
end Lwk11
set_option Elab.async false
set_option linter.all false
set_option maxRecDepth 100000
set_option maxHeartbeats 2000000
namespace Lwk11
open PySem L2 Mi
theorem num_btw {d : D} (h : btw 1 999999 d = false) : isNum d = false := by
  cases d with
  | int i => simpa [btw, isNum] using h
  | _ => rfl
theorem nt_one {ns : List D} (h : areNs (.tup ns) = true) : areNs (.tup [.tup ns]) = false := by
  refine not_ns (d := .tup ns) (by simp) ?_
  have hn : ns.all isN = true := by
    simp only [areNs, Bool.and_eq_true] at h
    exact h.1
  match ns, hn with
  | [], _ => rfl
  | [a], _ => rfl
  | [a, b], _ => rfl
  | [a, b, c], hn =>
    simp only [List.all_cons, Bool.and_eq_true] at hn
    obtain ⟨m, q, x, rfl, _⟩ := isN_tup hn.1
    rfl
  | a :: b :: c :: d :: r, _ => rfl
theorem upc5 : upL s5 = [82, 69, 65, 68, 69, 82] := by rw [upL_eq]; decide +kernel
theorem upc6 : upL s6 = [84, 82, 65, 78, 83, 65, 67, 84, 73, 79, 78] := by rw [upL_eq]; decide +kernel
theorem odd_runs_t {n : Nat} {pen : List D} {i : Int} {ns : List D} {p : Fr → List Sl → Prop} (hp : PenOk n pen) (hn : n + 1 ≤ lim) (h1 : 1 ≤ i) (h2 : i ≤ 999999) (hr : areNs (.tup ns) = true) (tns : tame (.tup ns) = true) (hnl : ns.length ≤ 100)
    (k : ∀ pen' ds, PenOk (n + 1) pen' → ds.length ≤ 60 → (∀ d ∈ ds, tame d = true ∧ isR d = false) → p (.new (.lst ds)) [.own true (.lst pen'), .v (.tup [.str s6, .int i, .tup ns])]) :
    Fok F_law_odd_runs [.own true (.lst pen), .v (.tup [.str s6, .int i, .tup ns])] p := by
  refine fok_run rfl rfl ?_
  rw [cc_law_odd_runs]
  have m1 : atI [D.str s6, .int i, .tup ns] (-1) = some (.tup ns) := atI_s2
  have ap : ∀ {xs ys : List D}, xs.length ≤ 10 → ys.length ≤ 10 → addD (.tup xs) (.tup ys) = some (.tup (xs ++ ys)) := fun {xs ys} h1 h2 => add_tt (by omega)
  have al : ∀ {xs ys : List D}, xs.length ≤ 100 → ys.length ≤ 100 → addD (.lst xs) (.lst ys) = some (.lst (xs ++ ys)) := fun {xs ys} h1 h2 => add_ll (by omega)
  have as1 : addD (.str s6) (.str s23) = some (.str (s6 ++ s23)) := add_ss (by decide)
  have hup : upD (.str s6) = some (.str [84, 82, 65, 78, 83, 65, 67, 84, 73, 79, 78]) := by
    rw [← upc6]
    show (if s6.length ≤ 5592405 then some (D.str (upL s6)) else none) = _
    rw [if_pos (by decide)]
  simp [m1, add_tt, as1, add_ll, hup, isS]
  obtain ⟨od, hod⟩ : ∃ od, od = [D.lst [D.str s6, D.int i, D.tup ns], D.tup [D.str s6, D.int i, D.tup ns, D.non], D.tup [D.str s6, D.int i], D.tup [D.str [84, 82, 65, 78, 83, 65, 67, 84, 73, 79, 78], D.int i, D.tup ns], D.tup [D.str (s6 ++ s23), D.int i, D.tup ns], D.tup [D.int i, D.tup ns], D.non, D.tup [],
      D.tup [D.str s6, D.int i, D.lst ns], D.tup [D.str s6, D.int i, D.non], D.tup [D.str s6, D.int i, D.dct []], D.tup [D.str s6, D.int i, D.tup [D.tup ns]], D.str s6, D.tup [D.non, D.int i, D.tup ns]] := ⟨_, rfl⟩
  have hodl : od.length = 14 := by rw [hod]; rfl
  have tl : tame (.lst ns) = true := by
    rw [tame_t] at tns
    rw [tame_l, tns]
  have yu : tame (.str [84, 82, 65, 78, 83, 65, 67, 84, 73, 79, 78]) = true := tame_s (by decide)
  have ys : tame (.str (s6 ++ s23)) = true := tame_s (by decide)
  have ho : ∀ d ∈ od, tame d = true ∧ isR d = false := by
    rw [hod]
    have d1 : ¬ [84, 82, 65, 78, 83, 65, 67, 84, 73, 79, 78] = s6 := by decide
    have d2 : ¬ [84, 82, 65, 78, 83, 65, 67, 84, 73, 79, 78] = s5 := by decide
    have d3 : ¬ s6 ++ s23 = s6 := by decide
    have d4 : ¬ s6 ++ s23 = s5 := by decide
    have x1 : areNs (.tup [.tup ns]) = false := nt_one hr
    have x2 : tame (.tup [.tup ns]) = true := by rw [tame_t]; simp [tns]
    have x3 : tame (.lst [.str s6, .int i, .tup ns]) = true := by rw [tame_l]; simp [tns, tm_s6]
    have q0 : areNs (.lst ns) = false := rfl
    have q1 : areNs .non = false := rfl
    have q2 : areNs (.dct []) = false := rfl
    have tt : ∀ {ds : List D}, ds.length ≤ 1000 → (∀ d ∈ ds, tame d = true) → tame (.tup ds) = true := tame_mk
    simp only [List.forall_mem_cons]
    refine ⟨⟨x3, rfl⟩, ⟨tt (by simp) (by simp [tns, tm_s6]), by simp [isR]⟩, ⟨tt (by simp) (by simp [tm_s6]), by simp [isR]⟩, ⟨tt (by simp) (by simp [tns, yu]), by simp [isR, d1, d2]⟩, ⟨tt (by simp) (by simp [tns, ys]), by simp [isR, d3, d4]⟩, ⟨tt (by simp) (by simp [tns]), rfl⟩, ⟨rfl, rfl⟩, ⟨rfl, rfl⟩,
      ⟨tt (by simp) (by simp [tl, tm_s6]), by simp [isR, q0]⟩, ⟨tt (by simp) (by simp [tm_s6]), by simp [isR, q1]⟩, ⟨tt (by simp) (by simp [tm_s6]), by simp [isR, q2]⟩, ⟨tt (by simp) (by simp [x2, tm_s6]), by simp [isR, x1]⟩, ⟨tm_s6, rfl⟩, ⟨tt (by simp) (by simp [tns]), rfl⟩, by simp⟩
  rw [← hod]
  refine t_odd_numbers (lo := 1) (hi := 999999) (by omega) (by omega) (by omega) (by omega) (sb (by decide)) (sb (by decide)) st1' st9 fun vs hvs => ?_
  have hvl := hvs.len
  simp
  have n65 : (s6 == s5) = false := by decide
  obtain ⟨P, hP⟩ : ∃ P : List D → En → Prop, ∀ rs ρ, P rs ρ ↔ (∃ (od : List D) (x6 : Sl), od.length + rs.length ≤ 30 ∧ (∀ d ∈ od, tame d = true ∧ isR d = false) ∧ (∀ d ∈ rs, tame d = true ∧ btw 1 999999 d = false) ∧
    ρ = [.own true (.lst pen), .v (.tup [.str s6, .int i, .tup ns]), .v (.tup ns), .v (.tup [.str s6, .int i]), .own false (.lst od), .v (.int 1), x6, .no, .no]) := ⟨_, fun _ _ => Iff.rfl⟩
  refine for_inv P ?_ ?_ ?_
  · exact (hP _ _).mpr ⟨od, _, by omega, ho, hvs.ok, rfl⟩
  · intro d rs ρ h
    obtain ⟨od, x6, hl, ho, hr, rfl⟩ := (hP _ _).mp h
    obtain ⟨hd1, hd2⟩ := hr d (List.mem_cons_self ..)
    rw [List.length_cons] at hl
    have hlk : od.length < sizeLine := line_lt (by omega)
    simp [add_tt, hlk, n65]
    refine (hP _ _).mpr ⟨_, _, by rw [List.length_append, List.length_singleton]; omega, ?_, fun d h => hr d (List.mem_cons_of_mem _ h), rfl⟩
    intro x hx
    rcases List.mem_append.mp hx with hx | hx
    · exact ho x hx
    · rw [List.mem_singleton.mp hx]
      exact ⟨tame_mk (by simp) (by simp [tm_s6, hd1, tns]), by simp [isR, num_btw hd2]⟩
  intro ρ h
  obtain ⟨od, x6, hl, ho, hr, rfl⟩ := (hP _ _).mp h
  rw [List.length_nil, Nat.add_zero] at hl
  have a5 : ∀ y z w, addD (.lst od) (.lst [y, z, w]) = some (.lst (od ++ [y, z, w])) := fun y z w => add_ll (by simp; omega)
  simp [orS5, n65, add_tt, a5]
  refine orS6_ok (place := [.str s6, .int i]) hp hn hnl tns (by simp) (tame_mk (by simp) (by simp [tm_s6])) (fun x hx => by simp [isR, hx]) ?_ (fun d hd => ?_) fun pen' ds x4 x6 x7 x8 hp' hdl hd => ?_
  · simp
    omega
  · rcases List.mem_append.mp hd with hd | hd
    · exact ho d hd
    · simp only [List.mem_cons, List.not_mem_nil, or_false] at hd
      have e1 : isNum (.tup ns) = false := rfl
      rcases hd with rfl | rfl | rfl
      · exact ⟨tame_mk (by simp) (by simp [tm_s5, tns]), by simp [isR, n56]⟩
      · exact ⟨tame_mk (by simp) (by simp [tm_s6, tns]), by simp [isR]⟩
      · exact ⟨tame_mk (by simp) (by simp [tm_s6, tns]), by simp [isR, e1]⟩
  · simp
    exact k _ _ hp' (by simp at hdl; omega) hd
end Lwk11
set_option Elab.async false
set_option linter.all false
set_option maxRecDepth 100000
set_option maxHeartbeats 2000000
namespace Lwk11
open PySem L2 Mi
theorem odd_runs_r {n : Nat} {pen : List D} {i j : Int} {ns : List D} {p : Fr → List Sl → Prop} (hp : PenOk n pen) (hn : n + 1 ≤ lim) (hr : areNs (.tup ns) = true) (tns : tame (.tup ns) = true) (hnl : ns.length ≤ 100)
    (k : ∀ pen' ds, PenOk (n + 1) pen' → ds.length ≤ 60 → (∀ d ∈ ds, tame d = true ∧ isR d = false) → p (.new (.lst ds)) [.own true (.lst pen'), .v (.tup [.str s5, .int i, .int j, .tup ns])]) :
    Fok F_law_odd_runs [.own true (.lst pen), .v (.tup [.str s5, .int i, .int j, .tup ns])] p := by
  refine fok_run rfl rfl ?_
  rw [cc_law_odd_runs]
  have m1 : atI [D.str s5, .int i, .int j, .tup ns] (-1) = some (.tup ns) := atI_s3
  have ap : ∀ {xs ys : List D}, xs.length ≤ 10 → ys.length ≤ 10 → addD (.tup xs) (.tup ys) = some (.tup (xs ++ ys)) := fun {xs ys} h1 h2 => add_tt (by omega)
  have al : ∀ {xs ys : List D}, xs.length ≤ 100 → ys.length ≤ 100 → addD (.lst xs) (.lst ys) = some (.lst (xs ++ ys)) := fun {xs ys} h1 h2 => add_ll (by omega)
  have as1 : addD (.str s5) (.str s23) = some (.str (s5 ++ s23)) := add_ss (by decide)
  have hup : upD (.str s5) = some (.str [82, 69, 65, 68, 69, 82]) := by
    rw [← upc5]
    show (if s5.length ≤ 5592405 then some (D.str (upL s5)) else none) = _
    rw [if_pos (by decide)]
  simp [m1, add_tt, as1, add_ll, hup, isS, e56]
  obtain ⟨od, hod⟩ : ∃ od, od = [D.lst [D.str s5, D.int i, D.int j, D.tup ns], D.tup [D.str s5, D.int i, D.int j, D.tup ns, D.non], D.tup [D.str s5, D.int i, D.int j], D.tup [D.str [82, 69, 65, 68, 69, 82], D.int i, D.int j, D.tup ns], D.tup [D.str (s5 ++ s23), D.int i, D.int j, D.tup ns], D.tup [D.int i, D.int j, D.tup ns], D.non, D.tup [],
      D.tup [D.str s5, D.int i, D.int j, D.lst ns], D.tup [D.str s5, D.int i, D.int j, D.non], D.tup [D.str s5, D.int i, D.int j, D.dct []], D.tup [D.str s5, D.int i, D.int j, D.tup [D.tup ns]], D.str s5, D.tup [D.non, D.int i, D.int j, D.tup ns]] := ⟨_, rfl⟩
  have hodl : od.length = 14 := by rw [hod]; rfl
  have tl : tame (.lst ns) = true := by
    rw [tame_t] at tns
    rw [tame_l, tns]
  have yu : tame (.str [82, 69, 65, 68, 69, 82]) = true := tame_s (by decide)
  have ys : tame (.str (s5 ++ s23)) = true := tame_s (by decide)
  have ho : ∀ d ∈ od, tame d = true ∧ isR d = false := by
    rw [hod]
    have d1 : ¬ [82, 69, 65, 68, 69, 82] = s6 := by decide
    have d2 : ¬ [82, 69, 65, 68, 69, 82] = s5 := by decide
    have d3 : ¬ s5 ++ s23 = s6 := by decide
    have d4 : ¬ s5 ++ s23 = s5 := by decide
    have x1 : areNs (.tup [.tup ns]) = false := nt_one hr
    have x2 : tame (.tup [.tup ns]) = true := by rw [tame_t]; simp [tns]
    have x3 : tame (.lst [.str s5, .int i, .int j, .tup ns]) = true := by rw [tame_l]; simp [tns, tm_s5]
    have q0 : areNs (.lst ns) = false := rfl
    have q1 : areNs .non = false := rfl
    have q2 : areNs (.dct []) = false := rfl
    have tt : ∀ {ds : List D}, ds.length ≤ 1000 → (∀ d ∈ ds, tame d = true) → tame (.tup ds) = true := tame_mk
    simp only [List.forall_mem_cons]
    refine ⟨⟨x3, rfl⟩, ⟨tt (by simp) (by simp [tns, tm_s5]), by simp [isR, n56]⟩, ⟨tt (by simp) (by simp [tm_s5]), by simp [isR, n56]⟩, ⟨tt (by simp) (by simp [tns, yu]), by simp [isR, d1, d2]⟩, ⟨tt (by simp) (by simp [tns, ys]), by simp [isR, d3, d4]⟩, ⟨tt (by simp) (by simp [tns]), rfl⟩, ⟨rfl, rfl⟩, ⟨rfl, rfl⟩,
      ⟨tt (by simp) (by simp [tl, tm_s5]), by simp [isR, n56, q0]⟩, ⟨tt (by simp) (by simp [tm_s5]), by simp [isR, n56, q1]⟩, ⟨tt (by simp) (by simp [tm_s5]), by simp [isR, n56, q2]⟩, ⟨tt (by simp) (by simp [x2, tm_s5]), by simp [isR, n56, x1]⟩, ⟨tm_s5, rfl⟩, ⟨tt (by simp) (by simp [tns]), rfl⟩, by simp⟩
  rw [← hod]
  refine t_odd_numbers (lo := 0) (hi := 999999) (by omega) (by omega) (by omega) (by omega) (sb (by decide)) (sb (by decide)) st0 st9 fun vs hvs => ?_
  have hvl := hvs.len
  simp
  obtain ⟨P, hP⟩ : ∃ P : List D → En → Prop, ∀ rs ρ, P rs ρ ↔ (∃ (od : List D) (x6 : Sl), od.length + 2 * rs.length ≤ 40 ∧ (∀ d ∈ od, tame d = true ∧ isR d = false) ∧ (∀ d ∈ rs, tame d = true ∧ btw 0 999999 d = false) ∧
    ρ = [.own true (.lst pen), .v (.tup [.str s5, .int i, .int j, .tup ns]), .v (.tup ns), .v (.tup [.str s5, .int i, .int j]), .own false (.lst od), .v (.int 0), x6, .no, .no]) := ⟨_, fun _ _ => Iff.rfl⟩
  refine for_inv P ?_ ?_ ?_
  · exact (hP _ _).mpr ⟨od, _, by omega, ho, hvs.ok, rfl⟩
  · intro d rs ρ h
    obtain ⟨od, x6, hl, ho, hr, rfl⟩ := (hP _ _).mp h
    obtain ⟨hd1, hd2⟩ := hr d (List.mem_cons_self ..)
    rw [List.length_cons] at hl
    have hlk : od.length < sizeLine := line_lt (by omega)
    have hlk2 : od.length + 1 < sizeLine := line_lt (by omega)
    simp [add_tt, hlk, hlk2]
    refine (hP _ _).mpr ⟨_, _, by rw [List.length_append]; simp; omega, ?_, fun d h => hr d (List.mem_cons_of_mem _ h), rfl⟩
    intro x hx
    rcases List.mem_append.mp hx with hx | hx
    · exact ho x hx
    · simp only [List.mem_cons, List.not_mem_nil, or_false] at hx
      have hb := below_f hd2 (m := 1000000) (by omega)
      rcases hx with rfl | rfl
      · exact ⟨tame_mk (by simp) (by simp [tm_s5, hd1, tns]), by simp [isR, n56, hb]⟩
      · exact ⟨tame_mk (by simp) (by simp [tm_s5, hd1, tns]), by simp [isR, n56, hb]⟩
  intro ρ h
  obtain ⟨od, x6, hl, ho, hr, rfl⟩ := (hP _ _).mp h
  rw [List.length_nil, Nat.add_zero] at hl
  have a5 : ∀ y z, addD (.lst od) (.lst [y, z]) = some (.lst (od ++ [y, z])) := fun y z => add_ll (by simp; omega)
  simp [orS5, add_tt, a5]
  refine orS6_ok (place := [.str s5, .int i, .int j]) hp hn hnl tns (by simp) (tame_mk (by simp) (by simp [tm_s5])) (fun x hx => by simp [isR, n56, hx]) ?_ (fun d hd => ?_) fun pen' ds x4 x6 x7 x8 hp' hdl hd => ?_
  · simp
    omega
  · rcases List.mem_append.mp hd with hd | hd
    · exact ho d hd
    · simp only [List.mem_cons, List.not_mem_nil, or_false] at hd
      rcases hd with rfl | rfl
      · exact ⟨tame_mk (by simp) (by simp [tm_s6, tns]), by simp [isR]⟩
      · exact ⟨tame_mk (by simp) (by simp [tm_s5, tns]), by simp [isR, n56]⟩
  · simp
    exact k _ _ hp' (by simp at hdl; omega) hd
theorem t_odd_runs {n : Nat} {pen : List D} {run : D} {p : Fr → List Sl → Prop} (hp : PenOk n pen) (hn : n + 1 ≤ lim) (hr : isR run = true) (tr : tame run = true) (hl : (ntsOf run).length ≤ 100)
    (k : ∀ pen' ds, PenOk (n + 1) pen' → ds.length ≤ 60 → (∀ d ∈ ds, tame d = true ∧ isR d = false) → p (.new (.lst ds)) [.own true (.lst pen'), .v run]) :
    Fok F_law_odd_runs [.own true (.lst pen), .v run] p := by
  rcases isR_cases hr with ⟨i, ns, rfl, h1, h2, h3⟩ | ⟨a, b, ns, rfl, h3⟩
  · exact odd_runs_t hp hn h1 h2 h3 (tup_in tr (by simp)) hl k
  · exact odd_runs_r hp hn h3 (tup_in tr (by simp)) hl k
end Lwk11
set_option Elab.async false
set_option linter.all false
set_option maxRecDepth 100000
set_option maxHeartbeats 2000000
namespace Lwk11
open PySem L2 Mi
theorem pw_mem {R : D → D → Prop} : ∀ {l : List D}, (∀ a ∈ l, ∀ b ∈ l, R a b) → l.Pairwise R
  | [], _ => .nil
  | x :: l, h => .cons (fun b hb => h x (List.mem_cons_self ..) b (List.mem_cons_of_mem _ hb)) (pw_mem fun a ha b hb => h a (List.mem_cons_of_mem _ ha) b (List.mem_cons_of_mem _ hb))
theorem same_ns {l : List D} (h : ∀ d ∈ l, isN d = true ∧ nm d = 4) : areNs (.tup l) = true := by
  simp only [areNs, Bool.and_eq_true, List.all_eq_true]
  refine ⟨fun v hv => (h v hv).1, adj_pw (pw_mem fun a ha b hb => ?_)⟩
  rw [(h a ha).2, (h b hb).2]
  rfl
theorem rng_mem : ∀ {n : Nat} {lo : Int} {d : D}, d ∈ rngD lo n → ∃ i, d = .int i ∧ lo ≤ i ∧ i < lo + n
  | 0, _, _, h => by cases h
  | n + 1, lo, d, h => by
    rw [rngD_s] at h
    rcases List.mem_cons.mp h with rfl | h
    · exact ⟨lo, rfl, by omega, by omega⟩
    · obtain ⟨i, e, h1, h2⟩ := rng_mem h
      exact ⟨i, e, by omega, by omega⟩
theorem rng_len : ∀ {n : Nat} {lo : Int}, (rngD lo n).length = n
  | 0, _ => rfl
  | n + 1, lo => by rw [rngD_s, List.length_cons, rng_len]
theorem t_runs_right {n : Nat} {pen : List D} {p : Fr → List Sl → Prop} (hp : PenOk n pen) (hn : n + 41000 ≤ lim) (k : ∀ pen', PenOk (n + 41000) pen' → p (.dat (.bl true)) [.own true (.lst pen')]) :
    Fok F_law_runs_right [.own true (.lst pen)] p := by
  refine fok_run rfl rfl ?_
  rw [cc_law_runs_right]
  simp
  refine t_draw hp (by omega) (by omega) (by omega) fun pen1 w hp1 w0 w1 => ?_
  simp
  obtain ⟨P, hP⟩ : ∃ P : List D → En → Prop, ∀ rs ρ, P rs ρ ↔ (∃ (pen ys ns : List D) (j : Nat) (x3 x4 : Sl), PenOk (n + 1 + j * 10010) pen ∧ j + rs.length = 4 ∧ ys.length = j ∧ (∀ d ∈ ys, d = .bl true) ∧ NoL (60 * j) ns ∧ (∀ d ∈ rs, ∃ num, d = numD num ∧ ∀ i, num = some i → isNum (.int i) = true) ∧
    ρ = [.own true (.lst pen), .own false (.lst ys), .own false (.lst ns), x3, x4, .no, .no, .no]) := ⟨_, fun _ _ => Iff.rfl⟩
  refine for_inv P ?_ ?_ ?_
  · refine (hP _ _).mpr ⟨pen1, [], [], 0, _, _, hp1.mono (by omega), rfl, rfl, by simp, ⟨by simp, by simp⟩, ?_, rfl⟩
    simp only [List.forall_mem_cons]
    exact ⟨⟨none, rfl, by simp⟩, ⟨some 1, rfl, by simp [isNum]⟩, ⟨some 999999, rfl, by simp [isNum]⟩, ⟨some (1 + w), rfl, by simp [isNum]; omega⟩, by simp⟩
  · intro d rs ρ h
    obtain ⟨pen, ys, ns, j, x3, x4, hp, e1, e2, hy, hno, hr, rfl⟩ := (hP _ _).mp h
    obtain ⟨num, rfl, hnum⟩ := hr d (List.mem_cons_self ..)
    rw [List.length_cons] at e1
    simp
    refine t_draw hp (by omega) (by omega) (by omega) fun pen2 v hp2 v0 v1 => ?_
    obtain ⟨v, rfl⟩ : ∃ k : Nat, v = k := ⟨v.toNat, by omega⟩
    simp
    refine t_run (num := num) hp2 (by omega) (by omega) fun pen3 a b nts hp3 hns a0 a1 b0 b1 => ?_
    obtain ⟨h1, h2, h3⟩ := mkRun_R hns (by omega) a0 a1 b0 b1 hnum
    have hlk : ys.length < sizeLine := line_lt (by omega)
    simp [h2, hlk]
    refine t_odd_runs hp3 (by omega) h1 h2 (by rw [h3, hns.len]; omega) fun pen4 ds hp4 hdl hd => ?_
    simp
    refine lc_map (fun d => .bl (isR d)) (by simp) (line_le (by omega)) (fun d hm => by simp [(hd d hm).1]) ?_
    have hN := nol_map (f := isR) hdl fun x hx => (hd x hx).2
    generalize (ds.map fun d => D.bl (isR d)) = N at hN ⊢
    simp [hno.add hN (by omega)]
    refine (hP _ _).mpr ⟨pen4, _, _, j + 1, _, _, hp4.mono (by omega), by omega, by rw [List.length_append, e2]; rfl, ?_, (hno.app hN).mono (by omega), fun d h => hr d (List.mem_cons_of_mem _ h), rfl⟩
    intro x hx
    rcases List.mem_append.mp hx with hx | hx
    · exact hy x hx
    · rw [List.mem_singleton.mp hx, h1]
  intro ρ h
  obtain ⟨pen, ys, ns, j, x3, x4, hp, e1, e2, hy, hno, hr, rfl⟩ := (hP _ _).mp h
  obtain rfl : j = 4 := by simpa using e1
  have hr61 := rngK1_n (n := 61) (by omega)
  simp at hr61
  simp [hr61]
  refine lc_map (fun d => .tup [.int 4, .tup [.str s2], d]) (by simp) (line_le (by rw [rng_len]; omega)) (fun d hm => by simp) ?_
  have hM : ∀ d ∈ (rngD 0 61).map fun d => D.tup [.int 4, .tup [.str s2], d], tame d = true ∧ isN d = true ∧ nm d = 4 := fun d hd => by
    obtain ⟨x, hx, rfl⟩ := List.mem_map.mp hd
    obtain ⟨i, rfl, i0, i1⟩ := rng_mem hx
    have hc : isA (.tup [.str s2]) (.int i) = true := isA_count (by simp [isBelow]; omega)
    exact ⟨by simp [tame_t, tm_s2], by simp [isN, isBelow, hc], rfl⟩
  have hMl : ((rngD 0 61).map fun d => D.tup [.int 4, .tup [.str s2], d]).length = 61 := by rw [List.length_map, rng_len]
  generalize ((rngD 0 61).map fun d => D.tup [.int 4, .tup [.str s2], d]) = M at hM hMl ⊢
  have g1 : areNs (.tup M) = true := same_ns fun d hd => (hM d hd).2
  have g2 : areNs (.tup (M.take 1)) = true := same_ns fun d hd => (hM d (List.mem_of_mem_take hd)).2
  have g3 : areNs (.tup []) = true := rfl
  have tM : tame (.tup M) = true := tame_mk (by omega) fun d hd => (hM d hd).1
  have tM1 : tame (.tup (M.take 1)) = true := tame_mk (by rw [List.length_take]; omega) fun d hd => (hM d (List.mem_of_mem_take hd)).1
  have t0 : tame (.tup []) = true := by decide
  have tt : ∀ {a : List Nat} {x y : D}, tame (.str a) = true → tame x = true → tame y = true → tame (.tup [.str a, x, y]) = true := fun h1 h2 h3 => tame_mk (by simp) (by simp [h1, h2, h3])
  have r1 : tame (.tup [.str s5, .int 5, .int 3, .tup M]) = true := tame_mk (by simp) (by simp [tm_s5, tM])
  have r2 : tame (.tup [.str s6, .int 7, .tup M]) = true := tame_mk (by simp) (by simp [tm_s6, tM])
  have r3 : tame (.tup [.str s5, .int 0, .int 999999, .tup []]) = true := tame_mk (by simp) (by simp [tm_s5, t0])
  have r4 : tame (.tup [.str s5, .int 999999, .int 0, .tup []]) = true := tame_mk (by simp) (by simp [tm_s5, t0])
  have r5 : tame (.tup [.str s5, .int 0, .int 0, .tup (M.take 1)]) = true := tame_mk (by simp) (by simp [tm_s5, tM1])
  have s1 : isR (.tup [.str s5, .int 5, .int 3, .tup M]) = true := by simp [isR, n56, isBelow, g1]
  have s2' : isR (.tup [.str s6, .int 7, .tup M]) = true := by simp [isR, isNum, g1]
  have s3' : isR (.tup [.str s5, .int 0, .int 999999, .tup []]) = true := by simp [isR, n56, isBelow, g3]
  have s4' : isR (.tup [.str s5, .int 999999, .int 0, .tup []]) = true := by simp [isR, n56, isBelow, g3]
  have s5' : isR (.tup [.str s5, .int 0, .int 0, .tup (M.take 1)]) = true := by simp [isR, n56, isBelow, g2]
  have a1 : addD (.lst ys) (.lst [.bl true, .bl true, .bl true]) = some (.lst (ys ++ [.bl true, .bl true, .bl true])) := add_ll (by simp; omega)
  have a2 : addD (.lst (ys ++ [.bl true, .bl true, .bl true])) (.lst [.bl true, .bl true]) = some (.lst (ys ++ [.bl true, .bl true, .bl true, .bl true, .bl true])) := by
    rw [add_ll (by simp; omega)]
    simp
  simp [r1, r2, r3, r4, r5, s1, s2', s3', s4', s5', a1, a2]
  refine fin_ok rfl rfl ?_ hno.2 ?_ ?_ ?_
  · intro d hd
    rcases List.mem_append.mp hd with hd | hd
    · exact hy d hd
    · simpa using hd
  · simp
    omega
  · have := hno.1
    omega
  · simp
    exact k _ (hp.mono (by omega))
end Lwk11
set_option Elab.async false
set_option linter.all false
set_option maxRecDepth 100000
set_option maxHeartbeats 2000000
namespace Lwk11
open PySem L2 Mi
theorem no_ac {ds : List D} {d : D} (hm : d ∈ ds) (h : isAc d = false) : isAs (.tup ds) = false := isAs_no fun a => by
  have := a.ac d hm
  rw [h] at this
  cases this
theorem ac_nk {d : List D} (h : ∀ s r, d ≠ .str s :: r) : isAc (.tup d) = false := by
  cases hh : isAc (.tup d) with
  | false => rfl
  | true =>
    obtain ⟨n, rs, e, _⟩ := isAc_tup hh
    cases e
    exact absurd rfl (h _ _)
theorem acs_nac {as : List D} (h : Acs as) : isAc (.tup as) = false := ac_nk fun s r e => by
  have := h.ac (.str s) (by rw [e]; simp)
  cases this
theorem runs_nac {rs : List D} (h : ∀ r ∈ rs, isR r = true) : isAc (.tup rs) = false := ac_nk fun s r e => by
  have := h (.str s) (by rw [e]; simp)
  cases this
theorem split_at {as : List D} {k : Nat} {a : D} (h : atI as (k : Int) = some a) : k < as.length ∧ as = as.take k ++ a :: as.drop (k + 1) := by
  rw [atI_n] at h
  obtain ⟨hlt, he⟩ := List.getElem?_eq_some_iff.mp h
  refine ⟨hlt, ?_⟩
  rw [← he, List.getElem_cons_drop, List.take_append_drop]
theorem no_name {xs ys zs : List D} {a b : D} (h : nmOf a = nmOf b) : isAs (.tup (xs ++ a :: ys ++ b :: zs)) = false := isAs_no fun s => by
  have := s.nms
  rw [List.map_append, List.map_append, List.nodup_append] at this
  exact this.2.2 (nmOf a) (by simp) (nmOf b) (by simp) h
theorem no_num {as : List D} {i : D} (h : ∃ xs ys zs, nums as = xs ++ i :: ys ++ i :: zs) : isAs (.tup as) = false := isAs_no fun s => by
  obtain ⟨xs, ys, zs, e⟩ := h
  have := s.nus
  rw [e, List.nodup_append] at this
  exact this.2.2 i (by simp) i (by simp) rfl
theorem nums_one {a : D} : nums [a] = told (rsOf a) := by simp [nums]
theorem told_one {i ns : D} : told [.tup [.str s6, i, ns]] = [i] := by simp [told, numO]
theorem cons_one (x : D) (l : List D) : x :: l = [x] ++ l := rfl
theorem split_ex {as : List D} {k : Nat} {a : D} (h : atI as (k : Int) = some a) : ∃ p q, as = p ++ a :: q ∧ as.take k = p ∧ as.drop (k + 1) = q ∧ p.length = k := by
  obtain ⟨h1, h2⟩ := split_at h
  exact ⟨_, _, h2, rfl, rfl, by rw [List.length_take]; omega⟩
theorem told_in {rs : List D} {k : Nat} {i ns : D} (h : atI rs (k : Int) = some (.tup [.str s6, i, ns])) : ∃ xs ys, told rs = xs ++ i :: ys := by
  obtain ⟨p, q, rfl, _⟩ := split_ex h
  refine ⟨told p, told q, ?_⟩
  rw [cons_one, told_app, told_app, told_one]
  rfl
theorem nums_in {as : List D} {k : Nat} {nm : D} {rs xs ys : List D} {i : D} (h : atI as (k : Int) = some (.tup [nm, .tup rs])) (h2 : told rs = xs ++ i :: ys) : ∃ xs ys, nums as = xs ++ i :: ys := by
  obtain ⟨p, q, rfl, _⟩ := split_ex h
  refine ⟨nums p ++ xs, ys ++ nums q, ?_⟩
  rw [cons_one, nums_app, nums_app, nums_one]
  show _ ++ (told rs ++ _) = _
  rw [h2]
  simp
theorem swp_num {as : List D} {k : Nat} {nm : D} {rs : List D} {i : D} (h2 : ∃ xs ys, told rs = xs ++ i :: ys) : isAs (.tup (swp as k (.tup [nm, .tup (rs ++ [.tup [.str s6, i, .tup []]])]))) = false := by
  obtain ⟨xs, ys, e⟩ := h2
  refine no_num (i := i) ⟨nums (as.take k) ++ xs, ys, nums (as.drop (k + 1)), ?_⟩
  unfold swp
  rw [cons_one, nums_app, nums_app, nums_one]
  show _ ++ (told (rs ++ _) ++ _) = _
  rw [told_app, told_one, e]
  simp
theorem app_num {as : List D} {nm : D} {i : D} (h2 : ∃ xs ys, nums as = xs ++ i :: ys) : isAs (.tup (as ++ [.tup [nm, .tup [.tup [.str s6, i, .tup []]]]])) = false := by
  obtain ⟨xs, ys, e⟩ := h2
  refine no_num (i := i) ⟨xs, ys, [], ?_⟩
  rw [nums_app, nums_one]
  show _ ++ told [.tup [.str s6, i, .tup []]] = _
  rw [told_one, e]
theorem swp_bad {as : List D} {k : Nat} {x : D} (h : isAc x = false) : isAs (.tup (swp as k x)) = false := no_ac swp_mem h
theorem ac_more {nm : D} {rs : List D} {r : D} (h : isR r = false) (hm : r ∈ rs) : isAc (.tup [nm, .tup rs]) = false := by
  have : rs.all isR = false := by
    rw [List.all_eq_false]
    exact ⟨r, hm, by simp [h]⟩
  simp [isAc, this]
theorem ac_key {nm rs : D} (h : isK nm = false) : isAc (.tup [nm, rs]) = false := by
  cases rs with
  | tup rs => simp [isAc, h]
  | _ => rfl
theorem isR_1 {r : D} (h : isR r = true) : ∃ w x y z, r = .tup (.str w :: x :: y :: z) ∧ ((w = s6 ∧ ∃ i, x = .int i ∧ z = [] ∧ 1 ≤ i ∧ i ≤ 999999) ∨ w = s5) := by
  rcases isR_cases h with ⟨i, ns, rfl, h1, h2, h3⟩ | ⟨a, b, ns, rfl, h3⟩
  · exact ⟨_, _, _, _, rfl, .inl ⟨rfl, i, rfl, rfl, h1, h2⟩⟩
  · exact ⟨_, _, _, _, rfl, .inr rfl⟩
theorem nts_le {as : List D} (h : Acs as) {a r : D} (ha : a ∈ as) (hr : r ∈ rsOf a) : (ntsOf r).length ≤ 60 := by
  have h1 : ∀ {rs : List D}, r ∈ rs → ((ntsOf r).length : Int) ≤ many rs := fun {rs} hm => by
    obtain ⟨p, q, rfl⟩ := List.append_of_mem hm
    have e : ∀ (x : D) (l : List D), x :: l = [x] ++ l := fun _ _ => rfl
    rw [e, many_app, many_app, many_one]
    have := many_nn (rs := p)
    have := many_nn (rs := q)
    omega
  have h2 : many (rsOf a) ≤ mnySum as := by
    obtain ⟨p, q, rfl⟩ := List.append_of_mem ha
    rw [mnySum_app, mnySum_c]
    have := mnySum_nn (as := p)
    have := mnySum_nn (as := q)
    omega
  have := h1 hr
  have := h.mny
  omega
theorem pick_sub {ds : List D} {ixs : List Nat} {d : D} (h : d ∈ pickD ds ixs) : d ∈ ds := by
  obtain ⟨i, h1, h2⟩ := List.mem_filterMap.mp h
  exact List.mem_of_getElem? h2
theorem ls60 : ∀ k : Fin 3, ∀ n : Fin 61, (lsIx n.val (1 + (k.val : Nat))).length ≤ 60 := by decide +kernel
theorem stp_ok {ds : List D} {k : Nat} (hl : ds.length ≤ 60) (hk : k < 3) : ∃ es, stpD (.lst ds) (.int (1 + (k : Int))) = some (.lst es) ∧ es.length ≤ 60 ∧ ∀ d ∈ es, d ∈ ds := by
  refine ⟨_, if_pos (by omega), ?_, fun d hd => pick_sub hd⟩
  have := ls60 ⟨k, hk⟩ ⟨ds.length, by omega⟩
  exact Nat.le_trans (List.length_filterMap_le _ _) this
end Lwk11
set_option Elab.async false
set_option linter.all false
set_option maxRecDepth 100000
set_option maxHeartbeats 2000000
namespace Lwk11
open PySem L2 Mi
theorem t_odd_accounts {n : Nat} {pen as : List D} {p : Fr → List Sl → Prop} (hp : PenOk n pen) (hn : n + 10 ≤ lim) (hA : Acs as) (ta : ∀ a ∈ as, tame a = true) (hl1 : 1 ≤ as.length)
    (k : ∀ pen' ds, PenOk (n + 10) pen' → ds.length ≤ 200 → (∀ d ∈ ds, tame d = true ∧ isAs d = false) → p (.new (.lst ds)) [.own true (.lst pen'), .v (.tup as)]) :
    Fok F_law_odd_accounts [.own true (.lst pen), .v (.tup as)] p := by
  refine fok_run rfl rfl ?_
  rw [cc_law_odd_accounts]
  have hal := hA.len
  simp
  refine t_draw hp (by omega) (by omega) (by omega) fun pen1 at_ hp1 at0 at1 => ?_
  obtain ⟨at_, rfl⟩ : ∃ k : Nat, at_ = k := ⟨at_.toNat, by omega⟩
  obtain ⟨acc, iat, ham⟩ := atI_some (xs := as) at0 at1
  obtain ⟨nm, rs, rfl, hnk, hr1, hr2, hrs⟩ := isAc_tup (hA.ac _ ham)
  have tacc := ta _ ham
  have tnm : tame (.str nm) = true := ky_tame hnk
  have trs : tame (.tup rs) = true := tup_in tacc (by simp)
  simp [iat]
  refine t_draw hp1 (by omega) (by omega) (by omega) fun pen2 kk hp2 k0 k1 => ?_
  obtain ⟨kk, rfl⟩ : ∃ k : Nat, kk = k := ⟨kk.toNat, by omega⟩
  obtain ⟨run, ikk, hrm⟩ := atI_some (xs := rs) k0 k1
  have hrR := hrs run hrm
  have trun : tame run = true := tup_in trs hrm
  have hnts : (ntsOf run).length ≤ 60 := nts_le hA ham hrm
  have hlk : ∀ {m : Nat}, m ≤ 1000 → m < sizeLine := fun h => line_lt (by omega)
  have ap : ∀ {xs ys : List D}, xs.length ≤ 100 → ys.length ≤ 100 → addD (.tup xs) (.tup ys) = some (.tup (xs ++ ys)) := fun {xs ys} h1 h2 => add_tt (by omega)
  have a1 : addD (.tup (as.take at_)) (.tup [.str nm]) = some (.tup (as.take at_ ++ [.str nm])) := ap (by rw [List.length_take]; omega) (by simp)
  have a2 : addD (.tup (as.take at_ ++ [.str nm])) (.tup (as.drop (at_ + 1))) = some (.tup (as.take at_ ++ [.str nm] ++ as.drop (at_ + 1))) := ap (by rw [List.length_append, List.length_take]; simp; omega) (by rw [List.length_drop]; omega)
  simp [iat, a1, a2]
  have tas : tame (.tup as) = true := tame_mk (by omega) ta
  have tlas : tame (.lst as) = true := by
    rw [tame_t] at tas
    rw [tame_l, tas]
  have tlrs : tame (.lst rs) = true := by
    rw [tame_t] at trs
    rw [tame_l, trs]
  have t0 : tame (.tup []) = true := by decide
  obtain ⟨od, hod⟩ : ∃ od, od = [D.lst as, D.non, D.int 5, D.str s7, D.dct [], D.tup [D.str nm, D.tup rs], D.tup [D.tup as], D.tup [D.str nm], D.tup [D.tup rs], D.tup (List.take at_ as ++ D.str nm :: List.drop (at_ + 1) as)] := ⟨_, rfl⟩
  have hodl : od.length = 10 := by rw [hod]; rfl
  have t1 : ∀ {d : D}, tame d = true → tame (.tup [d]) = true := fun h => tame_mk (by simp) (by simp [h])
  have t2 : ∀ {d e : D}, tame d = true → tame e = true → tame (.tup [d, e]) = true := fun h h2 => tame_mk (by simp) (by simp [h, h2])
  have ho : ∀ d ∈ od, tame d = true ∧ isAs d = false := by
    rw [hod]
    simp only [List.forall_mem_cons]
    refine ⟨⟨tlas, rfl⟩, ⟨rfl, rfl⟩, ⟨rfl, rfl⟩, ⟨tame_s (by decide), rfl⟩, ⟨rfl, rfl⟩, ⟨tacc, no_ac (d := .str nm) (by simp) rfl⟩, ⟨t1 tas, no_ac (d := .tup as) (by simp) (acs_nac hA)⟩, ⟨t1 tnm, no_ac (d := .str nm) (by simp) rfl⟩,
      ⟨t1 trs, no_ac (d := .tup rs) (by simp) (runs_nac hrs)⟩, ⟨tame_mk (by rw [List.length_append, List.length_take, List.length_cons, List.length_drop]; omega) fun d hd => ?_, no_ac (d := .str nm) (by simp) rfl⟩, by simp⟩
    rcases List.mem_append.mp hd with hd | hd
    · exact ta d (List.mem_of_mem_take hd)
    · rcases List.mem_cons.mp hd with rfl | hd
      · exact tnm
      · exact ta d (List.mem_of_mem_drop hd)
  rw [← hod]
  have sw : ∀ (x : D) (p : Fr → List Sl → Prop), Fok F_law_swap [.v (.tup as), .v (.int (at_ : Nat)), .v x] p ↔ p (.dat (.tup (swp as at_ x))) [.v (.tup as), .v (.int (at_ : Nat)), .v x] := fun x p => k_swap (by omega)
  have swr : ∀ (x : D) (p : Fr → List Sl → Prop), Fok F_law_swap [.v (.tup rs), .v (.int (kk : Nat)), .v x] p ↔ p (.dat (.tup (swp rs kk x))) [.v (.tup rs), .v (.int (kk : Nat)), .v x] := fun x p => k_swap (by omega)
  have b1 : addD (.tup [.str nm, .tup rs]) (.tup [.non]) = some (.tup [.str nm, .tup rs, .non]) := ap (by simp) (by simp)
  have swt : ∀ {x : D}, tame x = true → tame (.tup (swp as at_ x)) = true := fun h => swp_tame (by omega) ta h
  have swrt : ∀ {x : D}, tame x = true → tame (.tup (swp rs kk x)) = true := fun h => swp_tame (by omega) (fun d hd => tup_in trs hd) h
  simp [oaS5, iat, b1]
  obtain ⟨P, hP⟩ : ∃ P : List D → En → Prop, ∀ rs' ρ, P rs' ρ ↔ (∃ (od : List D) (x8 : Sl), od.length + rs'.length ≤ 19 ∧ (∀ d ∈ od, tame d = true ∧ isAs d = false) ∧ (∀ d ∈ rs', tame d = true ∧ isAc d = false) ∧
    ρ = [.own true (.lst pen2), .v (.tup as), .v (.int (at_ : Nat)), .v (.str nm), .v (.tup rs), .v (.int (kk : Nat)), .v (.tup [.str s6, .int 999999, .tup []]), .own false (.lst od), x8]) := ⟨_, fun _ _ => Iff.rfl⟩
  refine for_inv P ?_ ?_ ?_
  · refine (hP _ _).mpr ⟨od, _, by simp; omega, ho, ?_, rfl⟩
    simp only [List.forall_mem_cons]
    exact ⟨⟨by rw [tame_l]; simp [tnm, trs], rfl⟩, ⟨tame_mk (by simp) (by simp [tnm, trs]), rfl⟩, ⟨t1 tnm, rfl⟩, ⟨t2 tnm tlrs, rfl⟩, ⟨t2 tnm t0, by simp [isAc]⟩, ⟨rfl, rfl⟩, ⟨t0, rfl⟩, ⟨tnm, rfl⟩, ⟨t2 trs tnm, rfl⟩, by simp⟩
  · intro d rs' ρ h
    obtain ⟨od, x8, hl, ho, hr, rfl⟩ := (hP _ _).mp h
    obtain ⟨hd1, hd2⟩ := hr d (List.mem_cons_self ..)
    rw [List.length_cons] at hl
    simp [sw, hlk (m := od.length) (by omega)]
    refine (hP _ _).mpr ⟨_, _, by rw [List.length_append, List.length_singleton]; omega, ?_, fun d h => hr d (List.mem_cons_of_mem _ h), rfl⟩
    intro x hx
    rcases List.mem_append.mp hx with hx | hx
    · exact ho x hx
    · rw [List.mem_singleton.mp hx]
      exact ⟨swt hd1, swp_bad hd2⟩
  intro ρ h
  obtain ⟨od1, x8, hl1', ho1, -, rfl⟩ := (hP _ _).mp h
  clear h hP P
  rw [List.length_nil, Nat.add_zero] at hl1'
  simp [oaS6]
  refine t_odd_keys hnk fun vs hvs => ?_
  have hvl := hvs.len
  simp
  obtain ⟨P, hP⟩ : ∃ P : List D → En → Prop, ∀ rs' ρ, P rs' ρ ↔ (∃ (od : List D) (x8 : Sl), od.length + rs'.length ≤ 33 ∧ (∀ d ∈ od, tame d = true ∧ isAs d = false) ∧ (∀ d ∈ rs', tame d = true ∧ isK d = false) ∧
    ρ = [.own true (.lst pen2), .v (.tup as), .v (.int (at_ : Nat)), .v (.str nm), .v (.tup rs), .v (.int (kk : Nat)), .v (.tup [.str s6, .int 999999, .tup []]), .own false (.lst od), x8]) := ⟨_, fun _ _ => Iff.rfl⟩
  refine for_inv P ?_ ?_ ?_
  · exact (hP _ _).mpr ⟨od1, _, by omega, ho1, hvs.ok, rfl⟩
  · intro d rs' ρ h
    obtain ⟨od, x8, hl, ho, hr, rfl⟩ := (hP _ _).mp h
    obtain ⟨hd1, hd2⟩ := hr d (List.mem_cons_self ..)
    rw [List.length_cons] at hl
    simp [sw, hlk (m := od.length) (by omega)]
    refine (hP _ _).mpr ⟨_, _, by rw [List.length_append, List.length_singleton]; omega, ?_, fun d h => hr d (List.mem_cons_of_mem _ h), rfl⟩
    intro x hx
    rcases List.mem_append.mp hx with hx | hx
    · exact ho x hx
    · rw [List.mem_singleton.mp hx]
      exact ⟨swt (t2 hd1 trs), swp_bad (ac_key hd2)⟩
  intro ρ h
  obtain ⟨od2, x8, hl2', ho2, -, rfl⟩ := (hP _ _).mp h
  clear h hP P
  rw [List.length_nil, Nat.add_zero] at hl2'
  simp [oaS7, ikk]
  refine t_odd_runs hp2 (by omega) hrR trun (by omega) fun pen3 ws hp3 hwl hws => ?_
  simp
  refine t_draw hp3 (by omega) (by omega) (by omega) fun pen4 st hp4 st0 st1 => ?_
  obtain ⟨st, rfl⟩ : ∃ k : Nat, st = k := ⟨st.toNat, by omega⟩
  obtain ⟨es, he1, he2, he3⟩ := stp_ok (k := st) hwl (by omega)
  simp [he1]
  obtain ⟨P, hP⟩ : ∃ P : List D → En → Prop, ∀ rs' ρ, P rs' ρ ↔ (∃ (od : List D) (x8 : Sl), od.length + rs'.length ≤ 93 ∧ (∀ d ∈ od, tame d = true ∧ isAs d = false) ∧ (∀ d ∈ rs', tame d = true ∧ isR d = false) ∧
    ρ = [.own true (.lst pen4), .v (.tup as), .v (.int (at_ : Nat)), .v (.str nm), .v (.tup rs), .v (.int (kk : Nat)), .v (.tup [.str s6, .int 999999, .tup []]), .own false (.lst od), x8]) := ⟨_, fun _ _ => Iff.rfl⟩
  refine for_inv P ?_ ?_ ?_
  · exact (hP _ _).mpr ⟨od2, _, by omega, ho2, fun d hd => hws d (he3 d hd), rfl⟩
  · intro d rs' ρ h
    obtain ⟨od, x8, hl, ho, hr, rfl⟩ := (hP _ _).mp h
    obtain ⟨hd1, hd2⟩ := hr d (List.mem_cons_self ..)
    rw [List.length_cons] at hl
    simp [sw, swr, hlk (m := od.length) (by omega)]
    refine (hP _ _).mpr ⟨_, _, by rw [List.length_append, List.length_singleton]; omega, ?_, fun d h => hr d (List.mem_cons_of_mem _ h), rfl⟩
    intro x hx
    rcases List.mem_append.mp hx with hx | hx
    · exact ho x hx
    · rw [List.mem_singleton.mp hx]
      exact ⟨swt (t2 tnm (swrt hd1)), swp_bad (ac_more hd2 swp_mem)⟩
  intro ρ h
  obtain ⟨od3, x8, hl3', ho3, -, rfl⟩ := (hP _ _).mp h
  clear h hP P
  rw [List.length_nil, Nat.add_zero] at hl3'
  obtain ⟨w, x, y, z, rfl, hw⟩ := isR_1 hrR
  have tx : tame x = true := tup_in trun (by simp)
  have t3 : ∀ {d : D}, tame d = true → tame (.tup [.str s6, d, .tup []]) = true := fun h => tame_mk (by simp) (by simp [tm_s6, h, t0])
  have tap : ∀ {xs ys : List D}, xs.length ≤ 100 → ys.length ≤ 100 → (∀ d ∈ xs, tame d = true) → (∀ d ∈ ys, tame d = true) → tame (.tup (xs ++ ys)) = true := fun {xs ys} h1 h2 h3 h4 => tame_mk (by rw [List.length_append]; omega) fun d hd => (List.mem_append.mp hd).elim (h3 d) (h4 d)
  have c9 : ∀ (od : List D), od.length ≤ 100 → (∀ d ∈ od, tame d = true ∧ isAs d = false) → Okv oaS9.ms [.own true (.lst pen4), .v (.tup as), .v (.int (at_ : Nat)), .v (.str nm), .v (.tup rs), .v (.int (kk : Nat)), .v (.tup [.str s6, .int 999999, .tup []]), .own false (.lst od), x8]
      fun fl ρ => Som (outSl [Sl.own true (Ow.lst pen), Sl.v (D.tup as)] ρ) fun r => fl = Fl.nx ∧ p (Fr.dat D.non) r ∨ ∃ fr, fl = Fl.rt fr ∧ p fr r := fun od hl ho => by
    rcases hw with ⟨rfl, i, rfl, rfl, i1, i2⟩ | rfl
    · by_cases h12 : rs.length < 12
      · have h12' : (rs.length : Int) < 12 := by omega
        have c1 : addD (.tup rs) (.tup [.tup [.str s6, .int i, .tup []]]) = some (.tup (rs ++ [.tup [.str s6, .int i, .tup []]])) := ap (by omega) (by simp)
        simp [oaS9, ikk, h12, h12', c1, sw, hlk (m := od.length) (by omega)]
        refine k _ _ (hp4.mono (by omega)) (by rw [List.length_append, List.length_singleton]; omega) fun d hd => ?_
        rcases List.mem_append.mp hd with hd | hd
        · exact ho d hd
        · rw [List.mem_singleton.mp hd]
          exact ⟨swt (t2 tnm (tap (by omega) (by simp) (fun d hd => tup_in trs hd) (by simp [t3]))), swp_num (told_in ikk)⟩
      · have h12' : ¬ (rs.length : Int) < 12 := by omega
        simp [oaS9, ikk, h12, h12']
        exact k _ _ (hp4.mono (by omega)) (by omega) ho
    · simp [oaS9, ikk, e56]
      exact k _ _ (hp4.mono (by omega)) (by omega) ho
  by_cases h6 : as.length < 6
  · have h6' : (as.length : Int) < 6 := by omega
    have f0 : tame (.tup [.str nm, .tup [.tup [.str s6, .int 999999, .tup []]]]) = true := t2 tnm (t1 (t3 rfl))
    have c1 : addD (.tup as) (.tup [.tup [.str nm, .tup [.tup [.str s6, .int 999999, .tup []]]]]) = some (.tup (as ++ [.tup [.str nm, .tup [.tup [.str s6, .int 999999, .tup []]]]])) := ap (by omega) (by simp)
    have c2 : addD (.tup [.tup [.str nm, .tup [.tup [.str s6, .int 999999, .tup []]]]]) (.tup as) = some (.tup ([.tup [.str nm, .tup [.tup [.str s6, .int 999999, .tup []]]]] ++ as)) := ap (by simp) (by omega)
    have c3 : ∀ q, addD (.tup as) (.tup [.tup [.str s11, .tup [.tup [.str s6, q, .tup []]]]]) = some (.tup (as ++ [.tup [.str s11, .tup [.tup [.str s6, q, .tup []]]]])) := fun q => ap (by omega) (by simp)
    have ok4 : ∀ d ∈ od3 ++ [D.tup (as ++ [.tup [.str nm, .tup [.tup [.str s6, .int 999999, .tup []]]]]), .tup (.tup [.str nm, .tup [.tup [.str s6, .int 999999, .tup []]]] :: as)], tame d = true ∧ isAs d = false := fun d hd => by
      obtain ⟨pp, qq, e, _⟩ := split_ex iat
      rcases List.mem_append.mp hd with hd | hd
      · exact ho3 d hd
      · simp only [List.mem_cons, List.not_mem_nil, or_false] at hd
        rcases hd with rfl | rfl
        · refine ⟨tap (by omega) (by simp) ta (by simp [f0]), ?_⟩
          rw [e]
          exact no_name rfl
        · refine ⟨tap (xs := [_]) (by simp) (by omega) (by simp [f0]) ta, ?_⟩
          rw [e]
          exact no_name (xs := []) rfl
    have l4 : (od3 ++ [D.tup (as ++ [.tup [.str nm, .tup [.tup [.str s6, .int 999999, .tup []]]]]), .tup (.tup [.str nm, .tup [.tup [.str s6, .int 999999, .tup []]]] :: as)]).length ≤ 95 := by simp; omega
    have hk1 := hlk (m := od3.length) (by omega)
    have hk2 := hlk (m := od3.length + 1) (by omega)
    have hk3 := hlk (m := od3.length + 1 + 1) (by omega)
    rcases hw with ⟨rfl, i, rfl, rfl, i1, i2⟩ | rfl
    · simp [oaS8, h6, h6', c1, c2, c3, ikk, hk1, hk2, hk3]
      refine c9 _ (by simp; omega) fun d hd => ?_
      have e : ∀ x y z : D, od3 ++ [x, y, z] = (od3 ++ [x, y]) ++ [z] := fun x y z => by simp
      rw [e] at hd
      rcases List.mem_append.mp hd with hd | hd
      · exact ok4 d hd
      · rw [List.mem_singleton.mp hd]
        obtain ⟨xs, ys, e2⟩ := told_in ikk
        exact ⟨tap (by omega) (by simp) ta (by simp [t2 (tame_s (by decide) : tame (.str s11) = true) (t1 (t3 (d := .int i) rfl))]), app_num (nums_in iat e2)⟩
    · simp [oaS8, h6, h6', c1, c2, c3, ikk, hk1, hk2, hk3, e56]
      exact c9 _ (by simp; omega) ok4
  · have h6' : ¬ (as.length : Int) < 6 := by omega
    simp [oaS8, h6, h6']
    exact c9 _ (by omega) ho3
end Lwk11
set_option Elab.async false
set_option linter.all false
set_option maxRecDepth 100000
set_option maxHeartbeats 2000000
namespace Lwk11
open PySem L2 Mi
theorem t_accounts_right {n : Nat} {pen : List D} {p : Fr → List Sl → Prop} (hp : PenOk n pen) (hn : n + 250010 ≤ lim) (k : ∀ pen', PenOk (n + 250010) pen' → p (.dat (.bl true)) [.own true (.lst pen')]) :
    Fok F_law_accounts_right [.own true (.lst pen)] p := by
  refine fok_run rfl rfl ?_
  simp [b_law_accounts_right]
  refine t_accounts hp (by omega) fun pen1 as hp1 hA ta hl => ?_
  have hal := hA.len
  simp
  refine t_odd_accounts hp1 (by omega) hA ta hl fun pen2 ds hp2 hdl hd => ?_
  have tas : tame (.tup as) = true := tame_mk (by omega) ta
  simp
  refine lc_map (fun d => .bl (isAs d)) (by simp) (line_le (by omega)) (fun d hm => by simp [(hd d hm).1]) ?_
  have hN := nol_map (f := isAs) hdl fun x hx => (hd x hx).2
  generalize (ds.map fun d => D.bl (isAs d)) = N at hN ⊢
  have e2 := all_rep hN.2
  have l2 := hN.1
  generalize N.length = b at e2 l2
  subst e2
  obtain ⟨u, hu⟩ := rep_rep (b := false) (n := b) (by omega)
  have m2 := mul_rep (x := .bl false) (k := b) (by omega)
  have i1 : isD false (.bl true) (.bl true) = some (.bl true) := rfl
  simp [tas, isAs_ok hA, hu, m2, i1]
  exact k _ (hp2.mono (by omega))
end Lwk11
set_option Elab.async false
set_option linter.all false
set_option maxRecDepth 100000
set_option maxHeartbeats 2000000
namespace Lwk11
open PySem L2 Mi
theorem sub_sums {as bs : List D} (h : bs.Sublist as) : mnySum bs ≤ mnySum as ∧ rdrSum bs ≤ rdrSum as ∧ (nums bs).Sublist (nums as) := by
  induction h with
  | slnil => exact ⟨Int.le_refl _, Int.le_refl _, List.Sublist.refl _⟩
  | cons a _ ih =>
    rw [mnySum_c, rdrSum_c, nums_c]
    have := many_nn (rs := rsOf a)
    have := rdr_nn (a := a)
    exact ⟨by omega, by omega, ih.2.2.trans (List.sublist_append_right _ _)⟩
  | cons_cons a _ ih =>
    rw [mnySum_c, rdrSum_c, nums_c, mnySum_c, rdrSum_c, nums_c]
    exact ⟨by omega, by omega, ih.2.2.append_left _⟩
theorem Acs.sub {as bs : List D} (h : Acs as) (s : bs.Sublist as) : Acs bs := by
  obtain ⟨h1, h2, h3⟩ := sub_sums s
  exact ⟨Nat.le_trans s.length_le h.len, fun a ha => h.ac a (s.subset ha), h.nms.sublist (s.map _), h.nus.sublist h3, by have := h.mny; omega, by have := h.rds; omega⟩
theorem perm_sums {as bs : List D} (h : as.Perm bs) : mnySum as = mnySum bs ∧ rdrSum as = rdrSum bs ∧ (nums as).Perm (nums bs) := by
  induction h with
  | nil => exact ⟨rfl, rfl, .refl _⟩
  | cons a _ ih =>
    rw [mnySum_c, rdrSum_c, nums_c, mnySum_c, rdrSum_c, nums_c]
    exact ⟨by omega, by omega, ih.2.2.append_left _⟩
  | swap a b l =>
    simp only [mnySum_c, rdrSum_c, nums_c]
    exact ⟨by omega, by omega, List.perm_append_comm_assoc _ _ _⟩
  | trans _ _ ih1 ih2 => exact ⟨ih1.1.trans ih2.1, ih1.2.1.trans ih2.2.1, ih1.2.2.trans ih2.2.2⟩
theorem Acs.rev {as : List D} (h : Acs as) : Acs as.reverse := by
  obtain ⟨h1, h2, h3⟩ := perm_sums (List.reverse_perm as)
  exact ⟨by rw [List.length_reverse]; exact h.len, fun a ha => h.ac a (List.mem_reverse.mp ha), by rw [List.map_reverse]; exact (List.reverse_perm _).nodup_iff.mpr h.nms, h3.nodup_iff.mpr h.nus, by rw [h1]; exact h.mny, by rw [h2]; exact h.rds⟩
theorem rdr_eq {nm : D} {rs : List D} : rdr (.tup [nm, .tup rs]) = rs.length - (told rs).length := rfl
theorem told_le {rs : List D} : (told rs).length ≤ rs.length := List.length_filterMap_le _ _
theorem Acs.one {as : List D} {k : Nat} {nm : D} {rs : List D} (h : Acs as) (e : atI as (k : Int) = some (.tup [nm, .tup rs])) (hr : 1 ≤ rs.length) : Acs (swp as k (.tup [nm, .tup (rs.take 1)])) := by
  obtain ⟨p, q, rfl, e1, e2, e3⟩ := split_ex e
  unfold swp
  rw [e1, e2]
  have ha := h.ac (.tup [nm, .tup rs]) (by simp)
  have hrs : rs = rs.take 1 ++ rs.drop 1 := (List.take_append_drop _ _).symm
  have m1 := h.mny
  have m2 := h.rds
  have n1 := h.nus
  have n2 := h.nms
  rw [mnySum_app, mnySum_c] at m1
  rw [rdrSum_app, rdrSum_c, rdr_eq] at m2
  rw [nums_app, nums_c] at n1
  have t1 : many rs = many (rs.take 1) + many (rs.drop 1) := by rw [← many_app, ← hrs]
  have t2 : told rs = told (rs.take 1) ++ told (rs.drop 1) := by rw [← told_app, ← hrs]
  have t3 : rs.length = (rs.take 1).length + (rs.drop 1).length := by rw [← List.length_append, ← hrs]
  have t4 : (told rs).length = (told (rs.take 1)).length + (told (rs.drop 1)).length := by rw [t2, List.length_append]
  have t5 := told_le (rs := rs.drop 1)
  have t6 := many_nn (rs := rs.drop 1)
  refine ⟨by have := h.len; simpa using this, fun a hm => ?_, ?_, ?_, ?_, ?_⟩
  · rcases List.mem_append.mp hm with hm | hm
    · exact h.ac a (by simp [hm])
    · rcases List.mem_cons.mp hm with rfl | hm
      · obtain ⟨n, rs', e, hk, h1, h2, h3⟩ := isAc_tup ha
        cases e
        have : (rs.take 1).all isR = true := List.all_eq_true.mpr fun r hr => h3 r (List.mem_of_mem_take hr)
        have l1 : (rs.take 1).length = 1 := by rw [List.length_take]; omega
        simp only [isAc, hk, this, l1]
        decide
      · exact h.ac a (by simp [hm])
  · have e : nmOf (.tup [nm, .tup (rs.take 1)]) = nmOf (.tup [nm, .tup rs]) := rfl
    rw [List.map_append, List.map_cons, e]
    rw [List.map_append, List.map_cons] at n2
    exact n2
  · rw [nums_app, nums_c]
    refine n1.sublist ((List.Sublist.refl _).append (List.Sublist.append ?_ (List.Sublist.refl _)))
    show (told (rs.take 1)).Sublist (told rs)
    rw [t2]
    exact List.sublist_append_left _ _
  · rw [mnySum_app, mnySum_c]
    show _ + (many (rs.take 1) + _) ≤ _
    have : many (rsOf (.tup [nm, .tup rs])) = many rs := rfl
    omega
  · rw [rdrSum_app, rdrSum_c, rdr_eq]
    omega
theorem swp_sums {as : List D} {k : Nat} {nm : D} {rs rs' : List D} (e : atI as (k : Int) = some (.tup [nm, .tup rs])) : mnySum (swp as k (.tup [nm, .tup rs'])) = mnySum as - many rs + many rs' ∧ rdrSum (swp as k (.tup [nm, .tup rs'])) = rdrSum as - (rs.length - (told rs).length) + (rs'.length - (told rs').length) := by
  obtain ⟨p, q, rfl, e1, e2, e3⟩ := split_ex e
  unfold swp
  rw [e1, e2, mnySum_app, mnySum_c, mnySum_app, mnySum_c, rdrSum_app, rdrSum_c, rdrSum_app, rdrSum_c, rdr_eq, rdr_eq]
  have a : many (rsOf (.tup [nm, .tup rs])) = many rs := rfl
  have b : many (rsOf (.tup [nm, .tup rs'])) = many rs' := rfl
  constructor <;> omega
theorem swp_runs {rs : List D} {k : Nat} {r r' : D} (e : atI rs (k : Int) = some r) : many (swp rs k r') = many rs - many [r] + many [r'] ∧ (swp rs k r').length = rs.length ∧ ((told (swp rs k r')).length : Int) = (told rs).length - (told [r]).length + (told [r']).length := by
  obtain ⟨p, q, rfl, e1, e2, e3⟩ := split_ex e
  unfold swp
  rw [e1, e2, cons_one, cons_one r q, many_app, many_app, many_app, many_app, told_app, told_app, told_app, told_app]
  refine ⟨by omega, by simp, ?_⟩
  simp only [List.length_append]
  omega
theorem enum_get : ∀ {ds : List D} {i : Nat} {d : D}, d ∈ enumD i ds → ∃ (j : Nat) (x : D), d = .tup [.int ((i + j : Nat) : Int), x] ∧ ds[j]? = some x
  | [], _, _, h => by cases h
  | x :: ds, i, d, h => by
    rcases List.mem_cons.mp h with rfl | h
    · exact ⟨0, x, rfl, rfl⟩
    · obtain ⟨j, y, e1, e2⟩ := enum_get h
      exact ⟨j + 1, y, by rw [e1]; congr 3; omega, e2⟩
def dealF (d : D) : Option D := match d with
  | .tup [.int j, .tup (.str w :: _)] => if w = s6 then some (.int j) else none
  | _ => none
theorem deals_len : ∀ {rs : List D} {i : Nat}, (∀ r ∈ rs, isR r = true) → ((enumD i rs).filterMap dealF).length = (told rs).length
  | [], _, _ => rfl
  | r :: rs, i, h => by
    obtain ⟨w, x, y, z, rfl, hw⟩ := isR_1 (h r (List.mem_cons_self ..))
    have ih := deals_len (rs := rs) (i := i + 1) fun r hr => h r (List.mem_cons_of_mem _ hr)
    rcases hw with ⟨rfl, _⟩ | rfl
    · simp only [enumD, told, List.filterMap_cons, dealF, numO, if_true, List.length_cons]
      rw [ih]
      rfl
    · simp only [enumD, told, List.filterMap_cons, dealF, numO, if_neg n56]
      exact ih
end Lwk11
set_option Elab.async false
set_option linter.all false
set_option maxRecDepth 100000
set_option maxHeartbeats 2000000
namespace Lwk11
open PySem L2 Mi
theorem rdr_le {as : List D} {a : D} (h : a ∈ as) : rdr a ≤ rdrSum as := by
  obtain ⟨p, q, rfl⟩ := List.append_of_mem h
  rw [rdrSum_app, rdrSum_c]
  have := rdrSum_nn (as := p)
  have := rdrSum_nn (as := q)
  omega
theorem atI_mem {ds : List D} {k : Nat} {d : D} (h : atI ds (k : Int) = some d) : d ∈ ds := by
  rw [atI_n] at h
  exact List.mem_of_getElem? h
theorem t_bounds_right {n : Nat} {pen : List D} {p : Fr → List Sl → Prop} (hp : PenOk n pen) (hn : n + 310 ≤ lim) (k : ∀ pen', PenOk (n + 310) pen' → p (.dat (.bl true)) [.own true (.lst pen')]) :
    Fok F_law_bounds_right [.own true (.lst pen)] p := by
  refine fok_run rfl rfl ?_
  rw [cc_law_bounds_right]
  simp
  refine t_full hp (by omega) fun pen1 as hp1 hF => ?_
  have hA := hF.acs
  have hal := hF.len
  simp
  refine t_draw hp1 (by omega) (by omega) (by omega) fun pen2 at_ hp2 at0 at1 => ?_
  obtain ⟨at_, rfl⟩ : ∃ k : Nat, at_ = k := ⟨at_.toNat, by omega⟩
  have get : ∀ {j : Nat}, j < 6 → ∃ nm rs, atI as (j : Int) = some (.tup [.str nm, .tup rs]) ∧ isK (.str nm) = true ∧ rs.length = 12 ∧ (∀ r ∈ rs, isR r = true) ∧ tame (.tup rs) = true ∧ rdr (.tup [.str nm, .tup rs]) ≤ 5 := fun {j} hj => by
    obtain ⟨acc, i1, hm⟩ := atI_some (xs := as) (i := (j : Int)) (by omega) (by omega)
    obtain ⟨nm, rs, rfl, hnk, hr1, hr2, hrs⟩ := isAc_tup (hA.ac _ hm)
    have hrd := rdr_le hm
    rw [hF.rds] at hrd
    exact ⟨nm, rs, i1, hnk, hF.rl _ hm, hrs, tup_in (hF.tm _ hm) (by simp), hrd⟩
  obtain ⟨nm, rs, iat, hnk, hrl, hrs, trs, hrd⟩ := get (j := at_) (by omega)
  rw [rdr_eq] at hrd
  have tnm := ky_tame hnk
  simp [iat]
  refine lc_fm dealF (by simp) (line_le (by rw [enumD_len]; omega)) (fun d hd => ?_) ?_
  · obtain ⟨j, x, rfl, hx⟩ := enum_get hd
    obtain ⟨w, x, y, z, rfl, hw⟩ := isR_1 (hrs x (List.mem_of_getElem? hx))
    rcases hw with ⟨rfl, _⟩ | rfl
    · simp [dealF]
    · simp [dealF, n56, e56]
  have hdl := deals_len (i := 0) hrs
  have hdm : ∀ d ∈ (enumD 0 rs).filterMap dealF, ∃ (j : Nat) (i : Int) (ns : D), d = .int j ∧ j < 12 ∧ atI rs (j : Int) = some (.tup [.str s6, .int i, ns]) := fun d hd => by
    obtain ⟨e, h1, h2⟩ := List.mem_filterMap.mp hd
    obtain ⟨j, x, rfl, hx⟩ := enum_get h1
    obtain ⟨w, x, y, z, rfl, hw⟩ := isR_1 (hrs x (List.mem_of_getElem? hx))
    rcases hw with ⟨rfl, i, rfl, rfl, _⟩ | rfl
    · simp only [dealF, if_true, Option.some.injEq] at h2
      subst h2
      refine ⟨j, i, y, by congr 2; omega, ?_, by rw [atI_n]; exact hx⟩
      have := (List.getElem?_eq_some_iff.mp hx).1
      omega
    · simp [dealF, n56] at h2
  generalize (enumD 0 rs).filterMap dealF = deals at hdl hdm ⊢
  have htl := told_le (rs := rs)
  simp
  refine t_pick_o hp2 (by omega) (by omega) (by omega) fun pen3 kk hp3 hkm => ?_
  obtain ⟨kk, i, ns0, rfl, hk12, ikk⟩ := hdm kk hkm
  have hrR := hrs _ (atI_mem ikk)
  obtain ⟨ns, rfl, hns⟩ : ∃ ns, ns0 = .tup ns ∧ areNs (.tup ns) = true := by
    rcases isR_cases hrR with ⟨i, ns, e, h1, h2, h3⟩ | ⟨a, b, ns, e, h3⟩
    · cases e
      exact ⟨_, rfl, h3⟩
    · cases e
  have trun := tup_in trs (atI_mem ikk)
  have tns : tame (.tup ns) = true := tup_in trun (by simp)
  have hnl : ns.length ≤ 60 := nts_le hA (atI_mem iat) (r := .tup [.str s6, .int i, .tup ns]) (atI_mem ikk)
  have ta := hF.tm
  have tas : tame (.tup as) = true := tame_mk (by omega) ta
  have tt : tame (.tup (as.take at_)) = true := tame_mk (by rw [List.length_take]; omega) fun d hd => ta d (List.mem_of_mem_take hd)
  have td : tame (.tup (as.drop at_)) = true := tame_mk (by rw [List.length_drop]; omega) fun d hd => ta d (List.mem_of_mem_drop hd)
  have tr : tame (.tup as.reverse) = true := tame_mk (by rw [List.length_reverse]; omega) fun d hd => ta d (List.mem_reverse.mp hd)
  have t0 : tame (.tup []) = true := by decide
  have t1 : ∀ {d : D}, tame d = true → tame (.tup [d]) = true := fun h => tame_mk (by simp) (by simp [h])
  have t2 : ∀ {d e : D}, tame d = true → tame e = true → tame (.tup [d, e]) = true := fun h h2 => tame_mk (by simp) (by simp [h, h2])
  have t3 : ∀ {d e f : D}, tame d = true → tame e = true → tame f = true → tame (.tup [d, e, f]) = true := fun h h2 h3 => tame_mk (by simp) (by simp [h, h2, h3])
  have tap : ∀ {xs ys : List D}, xs.length ≤ 100 → ys.length ≤ 100 → (∀ d ∈ xs, tame d = true) → (∀ d ∈ ys, tame d = true) → tame (.tup (xs ++ ys)) = true := fun {xs ys} h1 h2 h3 h4 => tame_mk (by rw [List.length_append]; omega) fun d hd => (List.mem_append.mp hd).elim (h3 d) (h4 d)
  have swt : ∀ {x : D}, tame x = true → tame (.tup (swp as at_ x)) = true := fun h => swp_tame (by omega) ta h
  have swrt : ∀ {x : D}, tame x = true → tame (.tup (swp rs kk x)) = true := fun h => swp_tame (by omega) (fun d hd => tup_in trs hd) h
  have trt : tame (.tup (rs.take 1)) = true := tame_mk (by rw [List.length_take]; omega) fun d hd => tup_in trs (List.mem_of_mem_take hd)
  have sw : ∀ (x : D) (p : Fr → List Sl → Prop), Fok F_law_swap [.v (.tup as), .v (.int (at_ : Nat)), .v x] p ↔ p (.dat (.tup (swp as at_ x))) [.v (.tup as), .v (.int (at_ : Nat)), .v x] := fun x p => k_swap (by omega)
  have swr : ∀ (x : D) (p : Fr → List Sl → Prop), Fok F_law_swap [.v (.tup rs), .v (.int (kk : Nat)), .v x] p ↔ p (.dat (.tup (swp rs kk x))) [.v (.tup rs), .v (.int (kk : Nat)), .v x] := fun x p => k_swap (by omega)
  have c1 : stpD (.tup as) (.int (-1)) = some (.tup as.reverse) := by
    have hsz : (pickD as (tpIx as.length (-1))).length ≤ sizeLine := by
      rw [rev_pick (by omega) (by omega), List.length_reverse]
      exact line_le (by omega)
    simp only [stpD]
    rw [if_pos ⟨by decide, by decide, hsz⟩, rev_pick (by omega) (by omega)]
  have m1 : atI [D.str s6, .int i, .tup ns] (-1) = some (.tup ns) := atI_s2
  obtain ⟨l, hl⟩ : ∃ l, l = D.tup [.int 999999, .tup [.str s2], .int 0] := ⟨_, rfl⟩
  have tl : tame l = true := by rw [hl]; simp [tame_t, tm_s2]
  have c2 : addD (.tup ns) (.tup [l]) = some (.tup (ns ++ [l])) := add_tt (by simp; omega)
  have hdt : ((rs.drop kk).take 1).length = 1 := by rw [List.length_take, List.length_drop]; omega
  have c3 : addD (.tup rs) (.tup ((rs.drop kk).take 1)) = some (.tup (rs ++ (rs.drop kk).take 1)) := add_tt (by omega)
  obtain ⟨hf, hhf, fd⟩ : ∃ hf : Nat, hf < 3 ∧ fdivD (.int (at_ : Nat)) (.int 2) = some (.int (hf : Int)) := by
    refine ⟨at_ / 2, by omega, ?_⟩
    rw [fdiv_ii (by decide) (by decide)]
    have : ((at_ : Nat) : Int).fdiv 2 = ((at_ / 2 : Nat) : Int) := by
      rw [Int.fdiv_eq_ediv_of_nonneg _ (by decide)]
      omega
    rw [this]
  obtain ⟨nmh, rsh, iath, hnkh, hrlh, hrsh, trsh, -⟩ := get (j := hf) (by omega)
  obtain ⟨nm5, rs5, iat5, hnk5, hrl5, hrs5, trs5, -⟩ := get (j := 5) (by omega)
  obtain ⟨nm0, rs0, iat0, hnk0, hrl0, hrs0, trs0, -⟩ := get (j := 0) (by omega)
  have iat5' : atI as 5 = some (.tup [.str nm5, .tup rs5]) := iat5
  have iat0' : atI as 0 = some (.tup [.str nm0, .tup rs0]) := iat0
  have hd5 : ((rs5.drop kk).take 1).length = 1 := by rw [List.length_take, List.length_drop]; omega
  have c4 : addD (.tup rsh) (.tup ((rs5.drop kk).take 1)) = some (.tup (rsh ++ (rs5.drop kk).take 1)) := add_tt (by omega)
  have sw5 : ∀ (x : D) (p : Fr → List Sl → Prop), Fok F_law_swap [.v (.tup (as.take 5)), .v (.int (hf : Int)), .v x] p ↔ p (.dat (.tup (swp (as.take 5) hf x))) [.v (.tup (as.take 5)), .v (.int (hf : Int)), .v x] := fun x p => k_swap (by rw [List.length_take]; omega)
  have hs1 := swt (t2 tnm trt)
  have q1 := isAs_ok hA
  have q2 := isAs_ok (hA.sub (List.take_sublist at_ as))
  have q3 := isAs_ok (hA.sub (List.drop_sublist at_ as))
  have q4 := isAs_ok hA.rev
  have q5 : isAs (.tup []) = true := isAs_ok (hA.sub (List.nil_sublist _))
  have q6 := isAs_ok (hA.one iat (by omega))
  have hlk : ∀ {m : Nat}, m ≤ 1000 → m < sizeLine := fun h => line_lt (by omega)
  have g1 := hlk (m := 1) (by omega)
  have g2 := hlk (m := 2) (by omega)
  have g3 := hlk (m := 3) (by omega)
  have g4 := hlk (m := 4) (by omega)
  have g5 := hlk (m := 5) (by omega)
  simp [tas, tt, td, tr, t0, hs1, q1, q2, q3, q4, q5, q6, c1, sw, swr, add_ll, add_tt, ikk, m1, ← hl, c2, c3, fd, iath, iat5', c4, sw5, g1, g2, g3, g4, g5]
  refine t_draw hp3 (by omega) (by omega) (by omega) fun pen4 v hp4 v0 v1 => ?_
  have c5 : ∀ x, addD (.tup as) (.tup [x]) = some (.tup (as ++ [x])) := fun x => add_tt (by simp; omega)
  simp [c5, g4, g5]
  refine lc_map (fun d => .tup [nmOf d, .tup ((rsOf d).take 1)]) (by simp) (line_le (by omega)) (fun d hd => ?_) ?_
  · obtain ⟨n1, r1, rfl, -⟩ := isAc_tup (hA.ac d hd)
    simp [nmOf, rsOf]
  have hML : (as.map fun d => D.tup [nmOf d, .tup ((rsOf d).take 1)]).length = 6 := by rw [List.length_map, hal]
  have hMt : ∀ d ∈ as.map fun d => D.tup [nmOf d, .tup ((rsOf d).take 1)], tame d = true := fun d hd => by
    obtain ⟨x, hx, rfl⟩ := List.mem_map.mp hd
    obtain ⟨n1, r1, rfl, hk, -⟩ := isAc_tup (hA.ac x hx)
    have := tup_in (hF.tm _ hx) (d := .tup r1) (by simp)
    refine t2 (ky_tame hk) (tame_mk (by rw [List.length_take]; omega) fun d hd => tup_in this (List.mem_of_mem_take hd))
  generalize (as.map fun d => D.tup [nmOf d, .tup ((rsOf d).take 1)]) = M at hML hMt ⊢
  have c6 : ∀ x, addD (.tup M) (.tup [x]) = some (.tup (M ++ [x])) := fun x => add_tt (by simp; omega)
  simp [c6, iat0', g4, g5]
  obtain ⟨od, hod⟩ : ∃ od, od = [D.tup (swp as at_ (D.tup [D.str nm, D.tup (swp rs kk (D.tup [D.str s6, D.int i, D.tup (ns ++ [l])]))])),
      D.tup (swp as at_ (D.tup [D.str nm, D.tup (swp rs kk (D.tup [D.str s5, D.int 0, D.int 0, D.tup ns]))])),
      D.tup (swp as at_ (D.tup [D.str nm, D.tup (rs ++ List.take 1 (List.drop kk rs))])),
      D.tup (swp (List.take 5 as) hf (D.tup [D.str nmh, D.tup (rsh ++ List.take 1 (List.drop kk rs5))])),
      D.tup (as ++ [D.tup [D.str s11, D.tup [D.tup [D.str s6, D.int (1 + v), D.tup []]]]]),
      D.tup (M ++ [D.tup [D.str s11, D.tup (List.take 1 rs0.tail)]])] := ⟨_, rfl⟩
  have hodl : od.length = 6 := by rw [hod]; rfl
  have n13 : ∀ {x : D} {ys : List D}, ys.length = 13 → isAc (.tup [x, .tup ys]) = false := fun {x ys} h => by
    have : ¬ (1 ≤ ys.length ∧ ys.length ≤ 12) := by omega
    simp only [isAc, decide_eq_false this, Bool.and_false, Bool.false_and]
  have n7 : ∀ {ys : List D}, ys.length = 7 → isAs (.tup ys) = false := fun {ys} h => isAs_no fun a => by
    have := a.len
    omega
  have ho : ∀ d ∈ od, tame d = true ∧ isAs d = false := by
    rw [hod]
    simp only [List.forall_mem_cons]
    have tdk : ∀ d ∈ (rs.drop kk).take 1, tame d = true := fun d hd => tup_in trs (List.mem_of_mem_drop (List.mem_of_mem_take hd))
    have tdk5 : ∀ d ∈ (rs5.drop kk).take 1, tame d = true := fun d hd => tup_in trs5 (List.mem_of_mem_drop (List.mem_of_mem_take hd))
    have tz : tame (.str s11) = true := tame_s (by decide)
    refine ⟨⟨swt (t2 tnm (swrt (t3 tm_s6 rfl (tap (by omega) (by simp) (fun d hd => tup_in tns hd) (by simp [tl]))))), isAs_no fun a => ?_⟩,
      ⟨swt (t2 tnm (swrt (tame_mk (by simp) (by simp [tm_s5, tns])))), isAs_no fun a => ?_⟩,
      ⟨swt (t2 tnm (tap (by omega) (by omega) (fun d hd => tup_in trs hd) tdk)), swp_bad (n13 (by rw [List.length_append]; omega))⟩,
      ⟨swp_tame (by rw [List.length_take]; omega) (fun d hd => ta d (List.mem_of_mem_take hd)) (t2 (ky_tame hnkh) (tap (by omega) (by omega) (fun d hd => tup_in trsh hd) tdk5)), swp_bad (n13 (by rw [List.length_append]; omega))⟩,
      ⟨tap (by omega) (by simp) ta (by simp [t2 tz (t1 (t3 (e := .int (1 + v)) tm_s6 rfl t0))]), n7 (by rw [List.length_append, hal]; rfl)⟩,
      ⟨tap (by omega) (by simp) hMt ?_, n7 (by rw [List.length_append, hML]; rfl)⟩, by simp⟩
    · have := a.mny
      rw [(swp_sums iat).1, (swp_runs ikk).1, hF.mny, many_one, many_one] at this
      simp [ntsOf] at this
      omega
    · have := a.rds
      rw [(swp_sums iat).2, hF.rds, (swp_runs ikk).2.1, (swp_runs ikk).2.2] at this
      simp [told, numO, n56] at this
      omega
    · intro d hd
      rw [List.mem_singleton.mp hd]
      exact t2 tz (tame_mk (by rw [List.length_take]; omega) fun d hd => tup_in trs0 (List.mem_of_mem_tail (List.mem_of_mem_take hd)))
  rw [← hod]
  refine lc_map (fun d => .bl (isAs d)) (by simp) (line_le (by omega)) (fun d hm => by simp [(ho d hm).1]) ?_
  have hN := nol_map (f := isAs) (Nat.le_of_eq hodl) fun x hx => (ho x hx).2
  generalize (od.map fun d => D.bl (isAs d)) = N at hN ⊢
  simp
  refine fin_ok rfl rfl (by simp) hN.2 (by simp) (by have := hN.1; omega) ?_
  simp
  exact k _ (hp4.mono (by omega))
end Lwk11
set_option Elab.async false
set_option linter.all false
set_option maxRecDepth 100000
set_option maxHeartbeats 2000000
namespace Lwk11
open PySem L2 Mi
theorem t_pen {ns : List Int} {p : Fr → List Sl → Prop} (hn : ns.length ≤ 63) (k : PenOk 0 [.lst (ns.map .int), .int 0, .int 0] → p (.new (.lst [.lst (ns.map .int), .int 0, .int 0])) [.v (.frz (ns.map .int))]) :
    Fok F_law_pen [.v (.frz (ns.map .int))] p := by
  refine fok_run rfl rfl ?_
  have e : (ns.map D.int).take 63 = ns.map D.int := List.take_of_length_le (by rw [List.length_map]; omega)
  have c : sliD (.frz (ns.map D.int)) none (some 63) = some (.lst (ns.map D.int)) := by
    simp only [sliD]
    rw [cut_t63, e]
  simp [b_law_pen, c]
  exact k ⟨⟨ns, 0, 0, rfl, by omega, by omega, by omega, hn⟩⟩
theorem t_law {ns : List Int} (hn : ns.length ≤ 63) : Fok F_law [.v (.frz (ns.map .int))] fun fr _ => fr = .dat (.bl true) := by
  refine fok_run rfl rfl ?_
  simp [b_law]
  refine t_pen hn fun hp => ?_
  simp
  have hl : lim = 1000000 := rfl
  refine t_accounts_right hp (by omega) fun pen1 hp1 => ?_
  simp
  refine t_questions_right hp1 (by omega) fun pen2 hp2 => ?_
  simp
  refine t_scans_right hp2 (by omega) fun pen3 hp3 => ?_
  simp
  refine t_answers_right hp3 (by omega) fun pen4 hp4 => ?_
  simp
  refine t_notes_right hp4 (by omega) fun pen5 hp5 => ?_
  simp
  refine t_runs_right hp5 (by omega) fun pen6 hp6 => ?_
  simp
  refine t_bounds_right hp6 (by omega) fun pen7 hp7 => ?_
  simp
  refine t_accounts_right hp7 (by omega) fun pen8 hp8 => ?_
  simp
theorem law_true : saysTrue F_law 63 := fun ns hn => by
  obtain ⟨fr, sl, h, rfl⟩ := t_law hn
  exact ⟨sl, h⟩
end Lwk11
set_option Elab.async false
set_option linter.all false
set_option maxRecDepth 100000
set_option maxHeartbeats 0
namespace Lwk11
open PySem PySem.Spec PyProof.Rows L2
def top (i : Nat) : Stmt := PySem.Challenge.pw_noteskept_k11_forms_of_accounts.main.body.getD i (.Pass ⟨0, 0, 0, 0⟩)
def d_is_integer : He.DefD := ⟨("is_integer", none), "is_integer", "is_integer", defArgs (top 5), defBody (top 5), defScope (top 5), [], []⟩
def d_is_below : He.DefD := ⟨("is_below", none), "is_below", "is_below", defArgs (top 6), defBody (top 6), defScope (top 6), [], []⟩
def d_is_written : He.DefD := ⟨("is_written", none), "is_written", "is_written", defArgs (top 7), defBody (top 7), defScope (top 7), [], []⟩
def d_is_key : He.DefD := ⟨("is_key", none), "is_key", "is_key", defArgs (top 8), defBody (top 8), defScope (top 8), [], []⟩
def d_is_value : He.DefD := ⟨("is_value", none), "is_value", "is_value", defArgs (top 9), defBody (top 9), defScope (top 9), [], []⟩
def d_is_number : He.DefD := ⟨("is_number", none), "is_number", "is_number", defArgs (top 10), defBody (top 10), defScope (top 10), [], []⟩
def d_is_moment : He.DefD := ⟨("is_moment", none), "is_moment", "is_moment", defArgs (top 18), defBody (top 18), defScope (top 18), [], []⟩
def d_is_question : He.DefD := ⟨("is_question", none), "is_question", "is_question", defArgs (top 19), defBody (top 19), defScope (top 19), [], []⟩
def d_is_pair : He.DefD := ⟨("is_pair", none), "is_pair", "is_pair", defArgs (top 20), defBody (top 20), defScope (top 20), [], []⟩
def d_are_pairs : He.DefD := ⟨("are_pairs", none), "are_pairs", "are_pairs", defArgs (top 21), defBody (top 21), defScope (top 21), [], []⟩
def d_is_answer : He.DefD := ⟨("is_answer", none), "is_answer", "is_answer", defArgs (top 22), defBody (top 22), defScope (top 22), [], []⟩
def d_is_note : He.DefD := ⟨("is_note", none), "is_note", "is_note", defArgs (top 23), defBody (top 23), defScope (top 23), [], []⟩
def d_are_notes : He.DefD := ⟨("are_notes", none), "are_notes", "are_notes", defArgs (top 24), defBody (top 24), defScope (top 24), [], []⟩
def d_is_run : He.DefD := ⟨("is_run", none), "is_run", "is_run", defArgs (top 25), defBody (top 25), defScope (top 25), [], []⟩
def d_is_account : He.DefD := ⟨("is_account", none), "is_account", "is_account", defArgs (top 26), defBody (top 26), defScope (top 26), [], []⟩
def d_first_wrong : He.DefD := ⟨("first_wrong", none), "first_wrong", "first_wrong", defArgs (top 27), defBody (top 27), defScope (top 27), [], []⟩
def d_are_accounts : He.DefD := ⟨("are_accounts", none), "are_accounts", "are_accounts", defArgs (top 28), defBody (top 28), defScope (top 28), [], []⟩
def d_law_pen : He.DefD := ⟨("_law_pen", none), "_law_pen", "_law_pen", defArgs (top 30), defBody (top 30), defScope (top 30), [], []⟩
def d_law_draw : He.DefD := ⟨("_law_draw", none), "_law_draw", "_law_draw", defArgs (top 31), defBody (top 31), defScope (top 31), [], []⟩
def d_law_pick : He.DefD := ⟨("_law_pick", none), "_law_pick", "_law_pick", defArgs (top 32), defBody (top 32), defScope (top 32), [], []⟩
def d_law_text : He.DefD := ⟨("_law_text", none), "_law_text", "_law_text", defArgs (top 33), defBody (top 33), defScope (top 33), [], []⟩
def d_law_key : He.DefD := ⟨("_law_key", none), "_law_key", "_law_key", defArgs (top 34), defBody (top 34), defScope (top 34), [], []⟩
def d_law_value : He.DefD := ⟨("_law_value", none), "_law_value", "_law_value", defArgs (top 35), defBody (top 35), defScope (top 35), [], []⟩
def d_law_keys : He.DefD := ⟨("_law_keys", none), "_law_keys", "_law_keys", defArgs (top 36), defBody (top 36), defScope (top 36), [], []⟩
def d_law_pairs : He.DefD := ⟨("_law_pairs", none), "_law_pairs", "_law_pairs", defArgs (top 37), defBody (top 37), defScope (top 37), [], []⟩
def d_law_asked : He.DefD := ⟨("_law_asked", none), "_law_asked", "_law_asked", defArgs (top 38), defBody (top 38), defScope (top 38), [], []⟩
def d_law_moments : He.DefD := ⟨("_law_moments", none), "_law_moments", "_law_moments", defArgs (top 39), defBody (top 39), defScope (top 39), [], []⟩
def d_law_run : He.DefD := ⟨("_law_run", none), "_law_run", "_law_run", defArgs (top 40), defBody (top 40), defScope (top 40), [], []⟩
def d_law_accounts : He.DefD := ⟨("_law_accounts", none), "_law_accounts", "_law_accounts", defArgs (top 41), defBody (top 41), defScope (top 41), [], []⟩
def d_law_full : He.DefD := ⟨("_law_full", none), "_law_full", "_law_full", defArgs (top 42), defBody (top 42), defScope (top 42), [], []⟩
def d_law_swap : He.DefD := ⟨("_law_swap", none), "_law_swap", "_law_swap", defArgs (top 43), defBody (top 43), defScope (top 43), [], []⟩
def d_law_odd_keys : He.DefD := ⟨("_law_odd_keys", none), "_law_odd_keys", "_law_odd_keys", defArgs (top 44), defBody (top 44), defScope (top 44), [], []⟩
def d_law_odd_values : He.DefD := ⟨("_law_odd_values", none), "_law_odd_values", "_law_odd_values", defArgs (top 45), defBody (top 45), defScope (top 45), [], []⟩
def d_law_odd_numbers : He.DefD := ⟨("_law_odd_numbers", none), "_law_odd_numbers", "_law_odd_numbers", defArgs (top 46), defBody (top 46), defScope (top 46), [], []⟩
def d_law_questions_right : He.DefD := ⟨("_law_questions_right", none), "_law_questions_right", "_law_questions_right", defArgs (top 47), defBody (top 47), defScope (top 47), [], []⟩
def d_law_scans_right : He.DefD := ⟨("_law_scans_right", none), "_law_scans_right", "_law_scans_right", defArgs (top 48), defBody (top 48), defScope (top 48), [], []⟩
def d_law_answers_right : He.DefD := ⟨("_law_answers_right", none), "_law_answers_right", "_law_answers_right", defArgs (top 49), defBody (top 49), defScope (top 49), [], []⟩
def d_law_notes_right : He.DefD := ⟨("_law_notes_right", none), "_law_notes_right", "_law_notes_right", defArgs (top 50), defBody (top 50), defScope (top 50), [], []⟩
def d_law_odd_runs : He.DefD := ⟨("_law_odd_runs", none), "_law_odd_runs", "_law_odd_runs", defArgs (top 51), defBody (top 51), defScope (top 51), [], []⟩
def d_law_runs_right : He.DefD := ⟨("_law_runs_right", none), "_law_runs_right", "_law_runs_right", defArgs (top 52), defBody (top 52), defScope (top 52), [], []⟩
def d_law_odd_accounts : He.DefD := ⟨("_law_odd_accounts", none), "_law_odd_accounts", "_law_odd_accounts", defArgs (top 53), defBody (top 53), defScope (top 53), [], []⟩
def d_law_bounds_right : He.DefD := ⟨("_law_bounds_right", none), "_law_bounds_right", "_law_bounds_right", defArgs (top 54), defBody (top 54), defScope (top 54), [], []⟩
def d_law_accounts_right : He.DefD := ⟨("_law_accounts_right", none), "_law_accounts_right", "_law_accounts_right", defArgs (top 55), defBody (top 55), defScope (top 55), [], []⟩
def d_law : He.DefD := ⟨("law", none), "law", "law", defArgs (top 56), defBody (top 56), defScope (top 56), [], []⟩
def dfs0 : List (He.DefD) := [d_is_integer, d_is_below, d_is_written, d_is_key, d_is_value, d_is_number, d_is_moment, d_is_question, d_is_pair, d_are_pairs, d_is_answer, d_is_note, d_are_notes, d_is_run, d_is_account, d_first_wrong, d_are_accounts, d_law_pen, d_law_draw, d_law_pick, d_law_text, d_law_key, d_law_value, d_law_keys, d_law_pairs, d_law_asked, d_law_moments, d_law_run, d_law_accounts, d_law_full]
def dfs1 : List (He.DefD) := [d_law_swap, d_law_odd_keys, d_law_odd_values, d_law_odd_numbers, d_law_questions_right, d_law_scans_right, d_law_answers_right, d_law_notes_right, d_law_odd_runs, d_law_runs_right, d_law_odd_accounts, d_law_bounds_right, d_law_accounts_right, d_law]
def dfs : List (He.DefD) := dfs0 ++ dfs1
def fcs0 : List (He.Fa) := [.str "LETTERS" "abcdefghijklmnopqrstuvwxyz", .str "DIGITS" "0123456789", .int "MOST_SIGNS" 8, .int "MOST_NUMBER" 999999, .int "MOST_MOMENT" 999999, .int "MOST_PAIRS" 64, .int "MOST_ACCOUNTS" 6, .int "MOST_RUNS" 12, .int "MOST_NOTES" 60, .int "MOST_READERS" 5, .glo "is_integer", .glo "is_below", .glo "is_written", .glo "is_key", .glo "is_value", .glo "is_number", .glo "is_moment", .glo "is_question", .glo "is_pair", .glo "are_pairs", .glo "is_answer", .glo "is_note", .glo "are_notes", .glo "is_run", .glo "is_account", .glo "first_wrong", .glo "are_accounts", .glo "_law_pen", .glo "_law_draw", .glo "_law_pick"]
def fcs1 : List (He.Fa) := [.glo "_law_text", .glo "_law_key", .glo "_law_value", .glo "_law_keys", .glo "_law_pairs", .glo "_law_asked", .glo "_law_moments", .glo "_law_run", .glo "_law_accounts", .glo "_law_full", .glo "_law_swap", .glo "_law_odd_keys", .glo "_law_odd_values", .glo "_law_odd_numbers", .glo "_law_questions_right", .glo "_law_scans_right", .glo "_law_answers_right", .glo "_law_notes_right", .glo "_law_odd_runs", .glo "_law_runs_right", .glo "_law_odd_accounts", .glo "_law_bounds_right", .glo "_law_accounts_right", .glo "law", .free "len", .free "abs", .free "int", .free "sum", .free "all", .free "any"]
def fcs2 : List (He.Fa) := [.free "max", .free "min", .free "str", .free "repr", .free "list", .free "tuple", .free "isinstance", .free "range", .free "enumerate", .free "zip", .free "bool", .free "dict"]
def fcs : List (He.Fa) := fcs0 ++ fcs1 ++ fcs2
def lse0 : List (Str) := ["LETTERS", "DIGITS", "MOST_SIGNS", "MOST_NUMBER", "MOST_MOMENT", "MOST_PAIRS", "MOST_ACCOUNTS", "MOST_RUNS", "MOST_NOTES", "MOST_READERS", "is_integer", "is_below", "is_written", "is_key", "is_value", "is_number", "is_moment", "is_question", "is_pair", "are_pairs", "is_answer", "is_note", "are_notes", "is_run", "is_account", "first_wrong", "are_accounts", "_law_pen", "_law_draw", "_law_pick"]
def lse1 : List (Str) := ["_law_text", "_law_key", "_law_value", "_law_keys", "_law_pairs", "_law_asked", "_law_moments", "_law_run", "_law_accounts", "_law_full", "_law_swap", "_law_odd_keys", "_law_odd_values", "_law_odd_numbers", "_law_questions_right", "_law_scans_right", "_law_answers_right", "_law_notes_right", "_law_odd_runs", "_law_runs_right", "_law_odd_accounts", "_law_bounds_right", "_law_accounts_right"]
def lse : List (Str) := lse0 ++ lse1
abbrev row : PySem.W.OpenRow := PySem.W.OpenLaw.row PySem.Challenge.rw_noteskept_k11_forms_of_accounts
abbrev hok : PySem.W.Hook := He.hookD 4 fcs dfs
def obs (s : PySem.W.SharedT) : He.AlD := He.obsDG 4 fcs dfs (HandSHeadRun.getT s)
theorem obs_eq (s : PySem.W.SharedT) : obs s = hok.obs s.abs := He.obsDG_eq (HandSHeadRun.getT_eq s)
theorem run (w : World) : HandSHeadRun.RunEq row (PySem.W.view row.prog [56]) hok obs 3000 lse w := by
  intro os
  kernel_rfl
end Lwk11
set_option Elab.async false
set_option linter.all false
set_option maxRecDepth 100000
set_option maxHeartbeats 0
namespace Lwk11
open PySem PySem.Spec L2 Mi
open PyProof.Rows hiding St
abbrev L0 : List (Str × Ent) := []
abbrev L1 : List (Str × Ent) := ("LETTERS", .con (.str s0)) :: L0
abbrev L2 : List (Str × Ent) := ("DIGITS", .con (.str s1)) :: L1
abbrev L3 : List (Str × Ent) := ("MOST_SIGNS", .con (.int 8)) :: L2
abbrev L4 : List (Str × Ent) := ("MOST_NUMBER", .con (.int 999999)) :: L3
abbrev L5 : List (Str × Ent) := ("MOST_MOMENT", .con (.int 999999)) :: L4
abbrev L6 : List (Str × Ent) := ("MOST_PAIRS", .con (.int 64)) :: L5
abbrev L7 : List (Str × Ent) := ("MOST_ACCOUNTS", .con (.int 6)) :: L6
abbrev L8 : List (Str × Ent) := ("MOST_RUNS", .con (.int 12)) :: L7
abbrev L9 : List (Str × Ent) := ("MOST_NOTES", .con (.int 60)) :: L8
abbrev L10 : List (Str × Ent) := ("MOST_READERS", .con (.int 5)) :: L9
abbrev L11 : List (Str × Ent) := ("is_integer", .fn 1 ["value"] F_is_integer) :: L10
abbrev L12 : List (Str × Ent) := ("is_below", .fn 2 ["value", "limit"] F_is_below) :: L11
abbrev L13 : List (Str × Ent) := ("is_written", .fn 1 ["value", "signs"] F_is_written) :: L12
abbrev L14 : List (Str × Ent) := ("is_key", .fn 2 ["value"] F_is_key) :: L13
abbrev L15 : List (Str × Ent) := ("is_value", .fn 2 ["value"] F_is_value) :: L14
abbrev L16 : List (Str × Ent) := ("is_number", .fn 2 ["value"] F_is_number) :: L15
abbrev L17 : List (Str × Ent) := ("is_moment", .fn 3 ["value"] F_is_moment) :: L16
abbrev L18 : List (Str × Ent) := ("is_question", .fn 3 ["value"] F_is_question) :: L17
abbrev L19 : List (Str × Ent) := ("is_pair", .fn 3 ["value"] F_is_pair) :: L18
abbrev L20 : List (Str × Ent) := ("are_pairs", .fn 4 ["value", "low", "high"] F_are_pairs) :: L19
abbrev L21 : List (Str × Ent) := ("is_answer", .fn 5 ["question", "value"] F_is_answer) :: L20
abbrev L22 : List (Str × Ent) := ("is_note", .fn 6 ["value"] F_is_note) :: L21
abbrev L23 : List (Str × Ent) := ("are_notes", .fn 7 ["value"] F_are_notes) :: L22
abbrev L24 : List (Str × Ent) := ("is_run", .fn 8 ["value"] F_is_run) :: L23
abbrev L25 : List (Str × Ent) := ("is_account", .fn 9 ["value"] F_is_account) :: L24
abbrev L26 : List (Str × Ent) := ("first_wrong", .fn 10 ["accounts"] F_first_wrong) :: L25
abbrev L27 : List (Str × Ent) := ("are_accounts", .fn 11 ["value"] F_are_accounts) :: L26
abbrev L28 : List (Str × Ent) := ("_law_pen", .fn 1 ["script"] F_law_pen) :: L27
abbrev L29 : List (Str × Ent) := ("_law_draw", .fn 1 ["pen", "many"] F_law_draw) :: L28
abbrev L30 : List (Str × Ent) := ("_law_pick", .fn 2 ["pen", "some"] F_law_pick) :: L29
abbrev L31 : List (Str × Ent) := ("_law_text", .fn 3 ["pen", "signs"] F_law_text) :: L30
abbrev L32 : List (Str × Ent) := ("_law_key", .fn 4 ["pen"] F_law_key) :: L31
abbrev L33 : List (Str × Ent) := ("_law_value", .fn 4 ["pen"] F_law_value) :: L32
abbrev L34 : List (Str × Ent) := ("_law_keys", .fn 5 ["pen", "many"] F_law_keys) :: L33
abbrev L35 : List (Str × Ent) := ("_law_pairs", .fn 6 ["pen", "many"] F_law_pairs) :: L34
abbrev L36 : List (Str × Ent) := ("_law_asked", .fn 7 ["pen", "many"] F_law_asked) :: L35
abbrev L37 : List (Str × Ent) := ("_law_moments", .fn 3 ["pen", "many"] F_law_moments) :: L36
abbrev L38 : List (Str × Ent) := ("_law_run", .fn 8 ["pen", "number", "many"] F_law_run) :: L37
abbrev L39 : List (Str × Ent) := ("_law_accounts", .fn 9 ["pen", "least"] F_law_accounts) :: L38
abbrev L40 : List (Str × Ent) := ("_law_full", .fn 6 ["pen"] F_law_full) :: L39
abbrev L41 : List (Str × Ent) := ("_law_swap", .fn 1 ["some", "at", "thing"] F_law_swap) :: L40
abbrev L42 : List (Str × Ent) := ("_law_odd_keys", .fn 1 ["pen", "key"] F_law_odd_keys) :: L41
abbrev L43 : List (Str × Ent) := ("_law_odd_values", .fn 1 ["pen", "text"] F_law_odd_values) :: L42
abbrev L44 : List (Str × Ent) := ("_law_odd_numbers", .fn 1 ["low", "high"] F_law_odd_numbers) :: L43
abbrev L45 : List (Str × Ent) := ("_law_questions_right", .fn 5 ["pen"] F_law_questions_right) :: L44
abbrev L46 : List (Str × Ent) := ("_law_scans_right", .fn 7 ["pen"] F_law_scans_right) :: L45
abbrev L47 : List (Str × Ent) := ("_law_answers_right", .fn 6 ["pen"] F_law_answers_right) :: L46
abbrev L48 : List (Str × Ent) := ("_law_notes_right", .fn 8 ["pen"] F_law_notes_right) :: L47
abbrev L49 : List (Str × Ent) := ("_law_odd_runs", .fn 2 ["pen", "run"] F_law_odd_runs) :: L48
abbrev L50 : List (Str × Ent) := ("_law_runs_right", .fn 9 ["pen"] F_law_runs_right) :: L49
abbrev L51 : List (Str × Ent) := ("_law_odd_accounts", .fn 3 ["pen", "some"] F_law_odd_accounts) :: L50
abbrev L52 : List (Str × Ent) := ("_law_bounds_right", .fn 12 ["pen"] F_law_bounds_right) :: L51
abbrev L53 : List (Str × Ent) := ("_law_accounts_right", .fn 12 ["pen"] F_law_accounts_right) :: L52
abbrev L54 : List (Str × Ent) := ("law", .fn 13 ["script"] F_law) :: L53
section
variable {P : Program} {w : World} {K : PySem.W.Frag} {mg : Str → Option Value} {base h : Heap}
theorem t0 (X : K.In h) (G : h.Ns mainGlobals mg) (c : He.SaysD fcs dfs K) : LibOk P w K mg base (fun x => L0.lookup x) := by
  refine lib_nil fun x hx => ?_
  simp only [bnames, List.mem_cons, List.not_mem_nil, or_false] at hx
  rcases hx with rfl | rfl | rfl | rfl | rfl | rfl | rfl | rfl | rfl | rfl | rfl | rfl | rfl | rfl | rfl | rfl | rfl | rfl
  · exact He.free_ok X G (c.fact 54 (f := .free "len") rfl)
  · exact He.free_ok X G (c.fact 55 (f := .free "abs") rfl)
  · exact He.free_ok X G (c.fact 56 (f := .free "int") rfl)
  · exact He.free_ok X G (c.fact 57 (f := .free "sum") rfl)
  · exact He.free_ok X G (c.fact 58 (f := .free "all") rfl)
  · exact He.free_ok X G (c.fact 59 (f := .free "any") rfl)
  · exact He.free_ok X G (c.fact 60 (f := .free "max") rfl)
  · exact He.free_ok X G (c.fact 61 (f := .free "min") rfl)
  · exact He.free_ok X G (c.fact 62 (f := .free "str") rfl)
  · exact He.free_ok X G (c.fact 63 (f := .free "repr") rfl)
  · exact He.free_ok X G (c.fact 64 (f := .free "list") rfl)
  · exact He.free_ok X G (c.fact 65 (f := .free "tuple") rfl)
  · exact He.free_ok X G (c.fact 66 (f := .free "isinstance") rfl)
  · exact He.free_ok X G (c.fact 67 (f := .free "range") rfl)
  · exact He.free_ok X G (c.fact 68 (f := .free "enumerate") rfl)
  · exact He.free_ok X G (c.fact 69 (f := .free "zip") rfl)
  · exact He.free_ok X G (c.fact 70 (f := .free "bool") rfl)
  · exact He.free_ok X G (c.fact 71 (f := .free "dict") rfl)
theorem t1 (X : K.In h) (G : h.Ns mainGlobals mg) (c : He.SaysD fcs dfs K) : LibOk P w K mg base (fun x => L1.lookup x) := lib_str (t0 X G c) (z := "abcdefghijklmnopqrstuvwxyz") rfl (He.str_ok X G (c.fact 0 (f := .str "LETTERS" "abcdefghijklmnopqrstuvwxyz") rfl))
theorem t2 (X : K.In h) (G : h.Ns mainGlobals mg) (c : He.SaysD fcs dfs K) : LibOk P w K mg base (fun x => L2.lookup x) := lib_str (t1 X G c) (z := "0123456789") rfl (He.str_ok X G (c.fact 1 (f := .str "DIGITS" "0123456789") rfl))
theorem t3 (X : K.In h) (G : h.Ns mainGlobals mg) (c : He.SaysD fcs dfs K) : LibOk P w K mg base (fun x => L3.lookup x) := lib_int (t2 X G c) (He.int_ok X G (c.fact 2 (f := .int "MOST_SIGNS" 8) rfl))
theorem t4 (X : K.In h) (G : h.Ns mainGlobals mg) (c : He.SaysD fcs dfs K) : LibOk P w K mg base (fun x => L4.lookup x) := lib_int (t3 X G c) (He.int_ok X G (c.fact 3 (f := .int "MOST_NUMBER" 999999) rfl))
theorem t5 (X : K.In h) (G : h.Ns mainGlobals mg) (c : He.SaysD fcs dfs K) : LibOk P w K mg base (fun x => L5.lookup x) := lib_int (t4 X G c) (He.int_ok X G (c.fact 4 (f := .int "MOST_MOMENT" 999999) rfl))
theorem t6 (X : K.In h) (G : h.Ns mainGlobals mg) (c : He.SaysD fcs dfs K) : LibOk P w K mg base (fun x => L6.lookup x) := lib_int (t5 X G c) (He.int_ok X G (c.fact 5 (f := .int "MOST_PAIRS" 64) rfl))
theorem t7 (X : K.In h) (G : h.Ns mainGlobals mg) (c : He.SaysD fcs dfs K) : LibOk P w K mg base (fun x => L7.lookup x) := lib_int (t6 X G c) (He.int_ok X G (c.fact 6 (f := .int "MOST_ACCOUNTS" 6) rfl))
theorem t8 (X : K.In h) (G : h.Ns mainGlobals mg) (c : He.SaysD fcs dfs K) : LibOk P w K mg base (fun x => L8.lookup x) := lib_int (t7 X G c) (He.int_ok X G (c.fact 7 (f := .int "MOST_RUNS" 12) rfl))
theorem t9 (X : K.In h) (G : h.Ns mainGlobals mg) (c : He.SaysD fcs dfs K) : LibOk P w K mg base (fun x => L9.lookup x) := lib_int (t8 X G c) (He.int_ok X G (c.fact 8 (f := .int "MOST_NOTES" 60) rfl))
theorem t10 (X : K.In h) (G : h.Ns mainGlobals mg) (c : He.SaysD fcs dfs K) : LibOk P w K mg base (fun x => L10.lookup x) := lib_int (t9 X G c) (He.int_ok X G (c.fact 9 (f := .int "MOST_READERS" 5) rfl))
theorem c_is_integer : cDef 60 ["value"] (defScope (top 5)) 0 (fun x => L10.lookup x) (defBody (top 5)) = some b_is_integer := by kernel_rfl
theorem z_is_integer : C8.scC ["value"] ["value"] (defScope (top 5)) = true := by decide +kernel
theorem t11 (X : K.In h) (G : h.Ns mainGlobals mg) (c : He.SaysD fcs dfs K) : LibOk P w K mg base (fun x => L11.lookup x) := by
  obtain ⟨fd, F⟩ := c.def_ 0 (d := d_is_integer) rfl
  exact def_in (t10 X G c) F (He.glo_ok X G (c.fact 10 (f := .glo "is_integer") rfl)) z_is_integer c_is_integer fun _ _ _ _ _ _ us ws hl => match us, ws, hl with | [], [_], _ => rfl | [_], [], _ => rfl
theorem c_is_below : cDef 60 ["value", "limit"] (defScope (top 6)) 1 (fun x => L11.lookup x) (defBody (top 6)) = some b_is_below := by kernel_rfl
theorem z_is_below : C8.scC ["value", "limit"] ["value", "limit"] (defScope (top 6)) = true := by decide +kernel
theorem t12 (X : K.In h) (G : h.Ns mainGlobals mg) (c : He.SaysD fcs dfs K) : LibOk P w K mg base (fun x => L12.lookup x) := by
  obtain ⟨fd, F⟩ := c.def_ 1 (d := d_is_below) rfl
  exact def_in (t11 X G c) F (He.glo_ok X G (c.fact 11 (f := .glo "is_below") rfl)) z_is_below c_is_below fun _ _ _ _ _ _ us ws hl => match us, ws, hl with | [], [_, _], _ => rfl | [_], [_], _ => rfl | [_, _], [], _ => rfl
theorem c_is_written : cDef 60 ["value", "signs", "sign"] (defScope (top 7)) 0 (fun x => L12.lookup x) (defBody (top 7)) = some b_is_written := by kernel_rfl
theorem z_is_written : C8.scC ["value", "signs", "sign"] ["value", "signs"] (defScope (top 7)) = true := by decide +kernel
theorem t13 (X : K.In h) (G : h.Ns mainGlobals mg) (c : He.SaysD fcs dfs K) : LibOk P w K mg base (fun x => L13.lookup x) := by
  obtain ⟨fd, F⟩ := c.def_ 2 (d := d_is_written) rfl
  exact def_in (t12 X G c) F (He.glo_ok X G (c.fact 12 (f := .glo "is_written") rfl)) z_is_written c_is_written fun _ _ _ _ _ _ us ws hl => match us, ws, hl with | [], [_, _], _ => rfl | [_], [_], _ => rfl | [_, _], [], _ => rfl
theorem c_is_key : cDef 60 ["value"] (defScope (top 8)) 1 (fun x => L13.lookup x) (defBody (top 8)) = some b_is_key := by kernel_rfl
theorem z_is_key : C8.scC ["value"] ["value"] (defScope (top 8)) = true := by decide +kernel
theorem t14 (X : K.In h) (G : h.Ns mainGlobals mg) (c : He.SaysD fcs dfs K) : LibOk P w K mg base (fun x => L14.lookup x) := by
  obtain ⟨fd, F⟩ := c.def_ 3 (d := d_is_key) rfl
  exact def_in (t13 X G c) F (He.glo_ok X G (c.fact 13 (f := .glo "is_key") rfl)) z_is_key c_is_key fun _ _ _ _ _ _ us ws hl => match us, ws, hl with | [], [_], _ => rfl | [_], [], _ => rfl
theorem c_is_value : cDef 60 ["value"] (defScope (top 9)) 1 (fun x => L14.lookup x) (defBody (top 9)) = some b_is_value := by kernel_rfl
theorem z_is_value : C8.scC ["value"] ["value"] (defScope (top 9)) = true := by decide +kernel
theorem t15 (X : K.In h) (G : h.Ns mainGlobals mg) (c : He.SaysD fcs dfs K) : LibOk P w K mg base (fun x => L15.lookup x) := by
  obtain ⟨fd, F⟩ := c.def_ 4 (d := d_is_value) rfl
  exact def_in (t14 X G c) F (He.glo_ok X G (c.fact 14 (f := .glo "is_value") rfl)) z_is_value c_is_value fun _ _ _ _ _ _ us ws hl => match us, ws, hl with | [], [_], _ => rfl | [_], [], _ => rfl
theorem c_is_number : cDef 60 ["value"] (defScope (top 10)) 1 (fun x => L15.lookup x) (defBody (top 10)) = some b_is_number := by kernel_rfl
theorem z_is_number : C8.scC ["value"] ["value"] (defScope (top 10)) = true := by decide +kernel
theorem t16 (X : K.In h) (G : h.Ns mainGlobals mg) (c : He.SaysD fcs dfs K) : LibOk P w K mg base (fun x => L16.lookup x) := by
  obtain ⟨fd, F⟩ := c.def_ 5 (d := d_is_number) rfl
  exact def_in (t15 X G c) F (He.glo_ok X G (c.fact 15 (f := .glo "is_number") rfl)) z_is_number c_is_number fun _ _ _ _ _ _ us ws hl => match us, ws, hl with | [], [_], _ => rfl | [_], [], _ => rfl
theorem c_is_moment : cDef 60 ["value"] (defScope (top 18)) 2 (fun x => L16.lookup x) (defBody (top 18)) = some b_is_moment := by kernel_rfl
theorem z_is_moment : C8.scC ["value"] ["value"] (defScope (top 18)) = true := by decide +kernel
theorem t17 (X : K.In h) (G : h.Ns mainGlobals mg) (c : He.SaysD fcs dfs K) : LibOk P w K mg base (fun x => L17.lookup x) := by
  obtain ⟨fd, F⟩ := c.def_ 6 (d := d_is_moment) rfl
  exact def_in (t16 X G c) F (He.glo_ok X G (c.fact 16 (f := .glo "is_moment") rfl)) z_is_moment c_is_moment fun _ _ _ _ _ _ us ws hl => match us, ws, hl with | [], [_], _ => rfl | [_], [], _ => rfl
theorem c_is_question : cDef 60 ["value"] (defScope (top 19)) 2 (fun x => L17.lookup x) (defBody (top 19)) = some b_is_question := by kernel_rfl
theorem z_is_question : C8.scC ["value"] ["value"] (defScope (top 19)) = true := by decide +kernel
theorem t18 (X : K.In h) (G : h.Ns mainGlobals mg) (c : He.SaysD fcs dfs K) : LibOk P w K mg base (fun x => L18.lookup x) := by
  obtain ⟨fd, F⟩ := c.def_ 7 (d := d_is_question) rfl
  exact def_in (t17 X G c) F (He.glo_ok X G (c.fact 17 (f := .glo "is_question") rfl)) z_is_question c_is_question fun _ _ _ _ _ _ us ws hl => match us, ws, hl with | [], [_], _ => rfl | [_], [], _ => rfl
theorem c_is_pair : cDef 60 ["value"] (defScope (top 20)) 2 (fun x => L18.lookup x) (defBody (top 20)) = some b_is_pair := by kernel_rfl
theorem z_is_pair : C8.scC ["value"] ["value"] (defScope (top 20)) = true := by decide +kernel
theorem t19 (X : K.In h) (G : h.Ns mainGlobals mg) (c : He.SaysD fcs dfs K) : LibOk P w K mg base (fun x => L19.lookup x) := by
  obtain ⟨fd, F⟩ := c.def_ 8 (d := d_is_pair) rfl
  exact def_in (t18 X G c) F (He.glo_ok X G (c.fact 18 (f := .glo "is_pair") rfl)) z_is_pair c_is_pair fun _ _ _ _ _ _ us ws hl => match us, ws, hl with | [], [_], _ => rfl | [_], [], _ => rfl
theorem c_are_pairs : cDef 60 ["value", "low", "high", "pair", "later"] (defScope (top 21)) 3 (fun x => L19.lookup x) (defBody (top 21)) = some b_are_pairs := by kernel_rfl
theorem z_are_pairs : C8.scC ["value", "low", "high", "pair", "later"] ["value", "low", "high"] (defScope (top 21)) = true := by decide +kernel
theorem t20 (X : K.In h) (G : h.Ns mainGlobals mg) (c : He.SaysD fcs dfs K) : LibOk P w K mg base (fun x => L20.lookup x) := by
  obtain ⟨fd, F⟩ := c.def_ 9 (d := d_are_pairs) rfl
  exact def_in (t19 X G c) F (He.glo_ok X G (c.fact 19 (f := .glo "are_pairs") rfl)) z_are_pairs c_are_pairs fun _ _ _ _ _ _ us ws hl => match us, ws, hl with | [], [_, _, _], _ => rfl | [_], [_, _], _ => rfl | [_, _], [_], _ => rfl | [_, _, _], [], _ => rfl
theorem c_is_answer : cDef 60 ["question", "value"] (defScope (top 22)) 4 (fun x => L20.lookup x) (defBody (top 22)) = some b_is_answer := by kernel_rfl
theorem z_is_answer : C8.scC ["question", "value"] ["question", "value"] (defScope (top 22)) = true := by decide +kernel
theorem t21 (X : K.In h) (G : h.Ns mainGlobals mg) (c : He.SaysD fcs dfs K) : LibOk P w K mg base (fun x => L21.lookup x) := by
  obtain ⟨fd, F⟩ := c.def_ 10 (d := d_is_answer) rfl
  exact def_in (t20 X G c) F (He.glo_ok X G (c.fact 20 (f := .glo "is_answer") rfl)) z_is_answer c_is_answer fun _ _ _ _ _ _ us ws hl => match us, ws, hl with | [], [_, _], _ => rfl | [_], [_], _ => rfl | [_, _], [], _ => rfl
theorem c_is_note : cDef 60 ["value"] (defScope (top 23)) 5 (fun x => L21.lookup x) (defBody (top 23)) = some b_is_note := by kernel_rfl
theorem z_is_note : C8.scC ["value"] ["value"] (defScope (top 23)) = true := by decide +kernel
theorem t22 (X : K.In h) (G : h.Ns mainGlobals mg) (c : He.SaysD fcs dfs K) : LibOk P w K mg base (fun x => L22.lookup x) := by
  obtain ⟨fd, F⟩ := c.def_ 11 (d := d_is_note) rfl
  exact def_in (t21 X G c) F (He.glo_ok X G (c.fact 21 (f := .glo "is_note") rfl)) z_is_note c_is_note fun _ _ _ _ _ _ us ws hl => match us, ws, hl with | [], [_], _ => rfl | [_], [], _ => rfl
theorem c_are_notes : cDef 60 ["value", "note", "later"] (defScope (top 24)) 6 (fun x => L22.lookup x) (defBody (top 24)) = some b_are_notes := by kernel_rfl
theorem z_are_notes : C8.scC ["value", "note", "later"] ["value"] (defScope (top 24)) = true := by decide +kernel
theorem t23 (X : K.In h) (G : h.Ns mainGlobals mg) (c : He.SaysD fcs dfs K) : LibOk P w K mg base (fun x => L23.lookup x) := by
  obtain ⟨fd, F⟩ := c.def_ 12 (d := d_are_notes) rfl
  exact def_in (t22 X G c) F (He.glo_ok X G (c.fact 22 (f := .glo "are_notes") rfl)) z_are_notes c_are_notes fun _ _ _ _ _ _ us ws hl => match us, ws, hl with | [], [_], _ => rfl | [_], [], _ => rfl
theorem c_is_run : cDef 60 ["value"] (defScope (top 25)) 7 (fun x => L23.lookup x) (defBody (top 25)) = some b_is_run := by kernel_rfl
theorem z_is_run : C8.scC ["value"] ["value"] (defScope (top 25)) = true := by decide +kernel
theorem t24 (X : K.In h) (G : h.Ns mainGlobals mg) (c : He.SaysD fcs dfs K) : LibOk P w K mg base (fun x => L24.lookup x) := by
  obtain ⟨fd, F⟩ := c.def_ 13 (d := d_is_run) rfl
  exact def_in (t23 X G c) F (He.glo_ok X G (c.fact 23 (f := .glo "is_run") rfl)) z_is_run c_is_run fun _ _ _ _ _ _ us ws hl => match us, ws, hl with | [], [_], _ => rfl | [_], [], _ => rfl
theorem c_is_account : cDef 60 ["value", "run"] (defScope (top 26)) 8 (fun x => L24.lookup x) (defBody (top 26)) = some b_is_account := by kernel_rfl
theorem z_is_account : C8.scC ["value", "run"] ["value"] (defScope (top 26)) = true := by decide +kernel
theorem t25 (X : K.In h) (G : h.Ns mainGlobals mg) (c : He.SaysD fcs dfs K) : LibOk P w K mg base (fun x => L25.lookup x) := by
  obtain ⟨fd, F⟩ := c.def_ 14 (d := d_is_account) rfl
  exact def_in (t24 X G c) F (He.glo_ok X G (c.fact 24 (f := .glo "is_account") rfl)) z_is_account c_is_account fun _ _ _ _ _ _ us ws hl => match us, ws, hl with | [], [_], _ => rfl | [_], [], _ => rfl
theorem c_first_wrong : cDef 60 ["accounts", "names", "numbers", "many", "readers", "index", "account", "told", "run", "number"] (defScope (top 27)) 9 (fun x => L25.lookup x) (defBody (top 27)) = some b_first_wrong := by kernel_rfl
theorem z_first_wrong : C8.scC ["accounts", "names", "numbers", "many", "readers", "index", "account", "told", "run", "number"] ["accounts"] (defScope (top 27)) = true := by decide +kernel
theorem t26 (X : K.In h) (G : h.Ns mainGlobals mg) (c : He.SaysD fcs dfs K) : LibOk P w K mg base (fun x => L26.lookup x) := by
  obtain ⟨fd, F⟩ := c.def_ 15 (d := d_first_wrong) rfl
  exact def_in (t25 X G c) F (He.glo_ok X G (c.fact 25 (f := .glo "first_wrong") rfl)) z_first_wrong c_first_wrong fun _ _ _ _ _ _ us ws hl => match us, ws, hl with | [], [_], _ => rfl | [_], [], _ => rfl
theorem c_are_accounts : cDef 60 ["value"] (defScope (top 28)) 10 (fun x => L26.lookup x) (defBody (top 28)) = some b_are_accounts := by kernel_rfl
theorem z_are_accounts : C8.scC ["value"] ["value"] (defScope (top 28)) = true := by decide +kernel
theorem t27 (X : K.In h) (G : h.Ns mainGlobals mg) (c : He.SaysD fcs dfs K) : LibOk P w K mg base (fun x => L27.lookup x) := by
  obtain ⟨fd, F⟩ := c.def_ 16 (d := d_are_accounts) rfl
  exact def_in (t26 X G c) F (He.glo_ok X G (c.fact 26 (f := .glo "are_accounts") rfl)) z_are_accounts c_are_accounts fun _ _ _ _ _ _ us ws hl => match us, ws, hl with | [], [_], _ => rfl | [_], [], _ => rfl
theorem c_law_pen : cDef 60 ["script"] (defScope (top 30)) 0 (fun x => L27.lookup x) (defBody (top 30)) = some b_law_pen := by kernel_rfl
theorem z_law_pen : C8.scC ["script"] ["script"] (defScope (top 30)) = true := by decide +kernel
theorem t28 (X : K.In h) (G : h.Ns mainGlobals mg) (c : He.SaysD fcs dfs K) : LibOk P w K mg base (fun x => L28.lookup x) := by
  obtain ⟨fd, F⟩ := c.def_ 17 (d := d_law_pen) rfl
  exact def_in (t27 X G c) F (He.glo_ok X G (c.fact 27 (f := .glo "_law_pen") rfl)) z_law_pen c_law_pen fun _ _ _ _ _ _ us ws hl => match us, ws, hl with | [], [_], _ => rfl | [_], [], _ => rfl
theorem c_law_draw : cDef 60 ["pen", "many", "digit", "at", "cell", "great", "mixed"] (defScope (top 31)) 0 (fun x => L28.lookup x) (defBody (top 31)) = some b_law_draw := by kernel_rfl
theorem z_law_draw : C8.scC ["pen", "many", "digit", "at", "cell", "great", "mixed"] ["pen", "many"] (defScope (top 31)) = true := by decide +kernel
theorem t29 (X : K.In h) (G : h.Ns mainGlobals mg) (c : He.SaysD fcs dfs K) : LibOk P w K mg base (fun x => L29.lookup x) := by
  obtain ⟨fd, F⟩ := c.def_ 18 (d := d_law_draw) rfl
  exact def_in (t28 X G c) F (He.glo_ok X G (c.fact 28 (f := .glo "_law_draw") rfl)) z_law_draw c_law_draw fun _ _ _ _ _ _ us ws hl => match us, ws, hl with | [], [_, _], _ => rfl | [_], [_], _ => rfl | [_, _], [], _ => rfl
theorem c_law_pick : cDef 60 ["pen", "some"] (defScope (top 32)) 1 (fun x => L29.lookup x) (defBody (top 32)) = some b_law_pick := by kernel_rfl
theorem z_law_pick : C8.scC ["pen", "some"] ["pen", "some"] (defScope (top 32)) = true := by decide +kernel
theorem t30 (X : K.In h) (G : h.Ns mainGlobals mg) (c : He.SaysD fcs dfs K) : LibOk P w K mg base (fun x => L30.lookup x) := by
  obtain ⟨fd, F⟩ := c.def_ 19 (d := d_law_pick) rfl
  exact def_in (t29 X G c) F (He.glo_ok X G (c.fact 29 (f := .glo "_law_pick") rfl)) z_law_pick c_law_pick fun _ _ _ _ _ _ us ws hl => match us, ws, hl with | [], [_, _], _ => rfl | [_], [_], _ => rfl | [_, _], [], _ => rfl
theorem c_law_text : cDef 60 ["pen", "signs", "once"] (defScope (top 33)) 2 (fun x => L30.lookup x) (defBody (top 33)) = some b_law_text := by kernel_rfl
theorem z_law_text : C8.scC ["pen", "signs", "once"] ["pen", "signs"] (defScope (top 33)) = true := by decide +kernel
theorem t31 (X : K.In h) (G : h.Ns mainGlobals mg) (c : He.SaysD fcs dfs K) : LibOk P w K mg base (fun x => L31.lookup x) := by
  obtain ⟨fd, F⟩ := c.def_ 20 (d := d_law_text) rfl
  exact def_in (t30 X G c) F (He.glo_ok X G (c.fact 30 (f := .glo "_law_text") rfl)) z_law_text c_law_text fun _ _ _ _ _ _ us ws hl => match us, ws, hl with | [], [_, _], _ => rfl | [_], [_], _ => rfl | [_, _], [], _ => rfl
theorem c_law_key : cDef 60 ["pen"] (defScope (top 34)) 3 (fun x => L31.lookup x) (defBody (top 34)) = some b_law_key := by kernel_rfl
theorem z_law_key : C8.scC ["pen"] ["pen"] (defScope (top 34)) = true := by decide +kernel
theorem t32 (X : K.In h) (G : h.Ns mainGlobals mg) (c : He.SaysD fcs dfs K) : LibOk P w K mg base (fun x => L32.lookup x) := by
  obtain ⟨fd, F⟩ := c.def_ 21 (d := d_law_key) rfl
  exact def_in (t31 X G c) F (He.glo_ok X G (c.fact 31 (f := .glo "_law_key") rfl)) z_law_key c_law_key fun _ _ _ _ _ _ us ws hl => match us, ws, hl with | [], [_], _ => rfl | [_], [], _ => rfl
theorem c_law_value : cDef 60 ["pen"] (defScope (top 35)) 3 (fun x => L32.lookup x) (defBody (top 35)) = some b_law_value := by kernel_rfl
theorem z_law_value : C8.scC ["pen"] ["pen"] (defScope (top 35)) = true := by decide +kernel
theorem t33 (X : K.In h) (G : h.Ns mainGlobals mg) (c : He.SaysD fcs dfs K) : LibOk P w K mg base (fun x => L33.lookup x) := by
  obtain ⟨fd, F⟩ := c.def_ 22 (d := d_law_value) rfl
  exact def_in (t32 X G c) F (He.glo_ok X G (c.fact 32 (f := .glo "_law_value") rfl)) z_law_value c_law_value fun _ _ _ _ _ _ us ws hl => match us, ws, hl with | [], [_], _ => rfl | [_], [], _ => rfl
theorem c_law_keys : cDef 60 ["pen", "many", "letters", "head", "begin", "found", "k", "tail"] (defScope (top 36)) 4 (fun x => L33.lookup x) (defBody (top 36)) = some b_law_keys := by kernel_rfl
theorem z_law_keys : C8.scC ["pen", "many", "letters", "head", "begin", "found", "k", "tail"] ["pen", "many"] (defScope (top 36)) = true := by decide +kernel
theorem t34 (X : K.In h) (G : h.Ns mainGlobals mg) (c : He.SaysD fcs dfs K) : LibOk P w K mg base (fun x => L34.lookup x) := by
  obtain ⟨fd, F⟩ := c.def_ 23 (d := d_law_keys) rfl
  exact def_in (t33 X G c) F (He.glo_ok X G (c.fact 33 (f := .glo "_law_keys") rfl)) z_law_keys c_law_keys fun _ _ _ _ _ _ us ws hl => match us, ws, hl with | [], [_, _], _ => rfl | [_], [_], _ => rfl | [_, _], [], _ => rfl
theorem c_law_pairs : cDef 60 ["pen", "many", "texts", "once", "at", "key"] (defScope (top 37)) 5 (fun x => L34.lookup x) (defBody (top 37)) = some b_law_pairs := by kernel_rfl
theorem z_law_pairs : C8.scC ["pen", "many", "texts", "once", "at", "key"] ["pen", "many"] (defScope (top 37)) = true := by decide +kernel
theorem t35 (X : K.In h) (G : h.Ns mainGlobals mg) (c : He.SaysD fcs dfs K) : LibOk P w K mg base (fun x => L35.lookup x) := by
  obtain ⟨fd, F⟩ := c.def_ 24 (d := d_law_pairs) rfl
  exact def_in (t34 X G c) F (He.glo_ok X G (c.fact 34 (f := .glo "_law_pairs") rfl)) z_law_pairs c_law_pairs fun _ _ _ _ _ _ us ws hl => match us, ws, hl with | [], [_, _], _ => rfl | [_], [_], _ => rfl | [_, _], [], _ => rfl
theorem c_law_asked : cDef 60 ["pen", "many", "way", "some", "first", "last"] (defScope (top 38)) 6 (fun x => L35.lookup x) (defBody (top 38)) = some b_law_asked := by kernel_rfl
theorem z_law_asked : C8.scC ["pen", "many", "way", "some", "first", "last"] ["pen", "many"] (defScope (top 38)) = true := by decide +kernel
theorem t36 (X : K.In h) (G : h.Ns mainGlobals mg) (c : He.SaysD fcs dfs K) : LibOk P w K mg base (fun x => L36.lookup x) := by
  obtain ⟨fd, F⟩ := c.def_ 25 (d := d_law_asked) rfl
  exact def_in (t35 X G c) F (He.glo_ok X G (c.fact 35 (f := .glo "_law_asked") rfl)) z_law_asked c_law_asked fun _ _ _ _ _ _ us ws hl => match us, ws, hl with | [], [_, _], _ => rfl | [_], [_], _ => rfl | [_, _], [], _ => rfl
theorem c_law_moments : cDef 60 ["pen", "many", "at", "found", "once"] (defScope (top 39)) 2 (fun x => L36.lookup x) (defBody (top 39)) = some b_law_moments := by kernel_rfl
theorem z_law_moments : C8.scC ["pen", "many", "at", "found", "once"] ["pen", "many"] (defScope (top 39)) = true := by decide +kernel
theorem t37 (X : K.In h) (G : h.Ns mainGlobals mg) (c : He.SaysD fcs dfs K) : LibOk P w K mg base (fun x => L37.lookup x) := by
  obtain ⟨fd, F⟩ := c.def_ 26 (d := d_law_moments) rfl
  exact def_in (t36 X G c) F (He.glo_ok X G (c.fact 36 (f := .glo "_law_moments") rfl)) z_law_moments c_law_moments fun _ _ _ _ _ _ us ws hl => match us, ws, hl with | [], [_, _], _ => rfl | [_], [_], _ => rfl | [_, _], [], _ => rfl
theorem c_law_run : cDef 60 ["pen", "number", "many", "notes", "moment", "ends", "once"] (defScope (top 40)) 7 (fun x => L37.lookup x) (defBody (top 40)) = some b_law_run := by kernel_rfl
theorem z_law_run : C8.scC ["pen", "number", "many", "notes", "moment", "ends", "once"] ["pen", "number", "many"] (defScope (top 40)) = true := by decide +kernel
theorem t38 (X : K.In h) (G : h.Ns mainGlobals mg) (c : He.SaysD fcs dfs K) : LibOk P w K mg base (fun x => L38.lookup x) := by
  obtain ⟨fd, F⟩ := c.def_ 27 (d := d_law_run) rfl
  exact def_in (t37 X G c) F (He.glo_ok X G (c.fact 37 (f := .glo "_law_run") rfl)) z_law_run c_law_run fun _ _ _ _ _ _ us ws hl => match us, ws, hl with | [], [_, _, _], _ => rfl | [_], [_, _], _ => rfl | [_, _], [_], _ => rfl | [_, _, _], [], _ => rfl
theorem c_law_accounts : cDef 60 ["pen", "least", "names", "found", "readers", "base", "at", "runs", "k", "is_reader", "number"] (defScope (top 41)) 8 (fun x => L38.lookup x) (defBody (top 41)) = some b_law_accounts := by kernel_rfl
theorem z_law_accounts : C8.scC ["pen", "least", "names", "found", "readers", "base", "at", "runs", "k", "is_reader", "number"] ["pen", "least"] (defScope (top 41)) = true := by decide +kernel
theorem t39 (X : K.In h) (G : h.Ns mainGlobals mg) (c : He.SaysD fcs dfs K) : LibOk P w K mg base (fun x => L39.lookup x) := by
  obtain ⟨fd, F⟩ := c.def_ 28 (d := d_law_accounts) rfl
  exact def_in (t38 X G c) F (He.glo_ok X G (c.fact 38 (f := .glo "_law_accounts") rfl)) z_law_accounts c_law_accounts fun _ _ _ _ _ _ us ws hl => match us, ws, hl with | [], [_, _], _ => rfl | [_], [_], _ => rfl | [_, _], [], _ => rfl
theorem c_law_full : cDef 60 ["pen", "names", "found", "skip", "base", "heap", "at", "runs", "k", "many", "notes", "j", "is_reader"] (defScope (top 42)) 5 (fun x => L39.lookup x) (defBody (top 42)) = some b_law_full := by kernel_rfl
theorem z_law_full : C8.scC ["pen", "names", "found", "skip", "base", "heap", "at", "runs", "k", "many", "notes", "j", "is_reader"] ["pen"] (defScope (top 42)) = true := by decide +kernel
theorem t40 (X : K.In h) (G : h.Ns mainGlobals mg) (c : He.SaysD fcs dfs K) : LibOk P w K mg base (fun x => L40.lookup x) := by
  obtain ⟨fd, F⟩ := c.def_ 29 (d := d_law_full) rfl
  exact def_in (t39 X G c) F (He.glo_ok X G (c.fact 39 (f := .glo "_law_full") rfl)) z_law_full c_law_full fun _ _ _ _ _ _ us ws hl => match us, ws, hl with | [], [_], _ => rfl | [_], [], _ => rfl
theorem c_law_swap : cDef 60 ["some", "at", "thing"] (defScope (top 43)) 0 (fun x => L40.lookup x) (defBody (top 43)) = some b_law_swap := by kernel_rfl
theorem z_law_swap : C8.scC ["some", "at", "thing"] ["some", "at", "thing"] (defScope (top 43)) = true := by decide +kernel
theorem t41 (X : K.In h) (G : h.Ns mainGlobals mg) (c : He.SaysD fcs dfs K) : LibOk P w K mg base (fun x => L41.lookup x) := by
  obtain ⟨fd, F⟩ := c.def_ 30 (d := d_law_swap) rfl
  exact def_in (t40 X G c) F (He.glo_ok X G (c.fact 40 (f := .glo "_law_swap") rfl)) z_law_swap c_law_swap fun _ _ _ _ _ _ us ws hl => match us, ws, hl with | [], [_, _, _], _ => rfl | [_], [_, _], _ => rfl | [_, _], [_], _ => rfl | [_, _, _], [], _ => rfl
theorem c_law_odd_keys : cDef 60 ["pen", "key", "some"] (defScope (top 44)) 0 (fun x => L41.lookup x) (defBody (top 44)) = some b_law_odd_keys := by kernel_rfl
theorem z_law_odd_keys : C8.scC ["pen", "key", "some"] ["pen", "key"] (defScope (top 44)) = true := by decide +kernel
theorem t42 (X : K.In h) (G : h.Ns mainGlobals mg) (c : He.SaysD fcs dfs K) : LibOk P w K mg base (fun x => L42.lookup x) := by
  obtain ⟨fd, F⟩ := c.def_ 31 (d := d_law_odd_keys) rfl
  exact def_in (t41 X G c) F (He.glo_ok X G (c.fact 41 (f := .glo "_law_odd_keys") rfl)) z_law_odd_keys c_law_odd_keys fun _ _ _ _ _ _ us ws hl => match us, ws, hl with | [], [_, _], _ => rfl | [_], [_], _ => rfl | [_, _], [], _ => rfl
theorem c_law_odd_values : cDef 60 ["pen", "text", "some"] (defScope (top 45)) 0 (fun x => L42.lookup x) (defBody (top 45)) = some b_law_odd_values := by kernel_rfl
theorem z_law_odd_values : C8.scC ["pen", "text", "some"] ["pen", "text"] (defScope (top 45)) = true := by decide +kernel
theorem t43 (X : K.In h) (G : h.Ns mainGlobals mg) (c : He.SaysD fcs dfs K) : LibOk P w K mg base (fun x => L43.lookup x) := by
  obtain ⟨fd, F⟩ := c.def_ 32 (d := d_law_odd_values) rfl
  exact def_in (t42 X G c) F (He.glo_ok X G (c.fact 42 (f := .glo "_law_odd_values") rfl)) z_law_odd_values c_law_odd_values fun _ _ _ _ _ _ us ws hl => match us, ws, hl with | [], [_, _], _ => rfl | [_], [_], _ => rfl | [_, _], [], _ => rfl
theorem c_law_odd_numbers : cDef 60 ["low", "high"] (defScope (top 46)) 0 (fun x => L43.lookup x) (defBody (top 46)) = some b_law_odd_numbers := by kernel_rfl
theorem z_law_odd_numbers : C8.scC ["low", "high"] ["low", "high"] (defScope (top 46)) = true := by decide +kernel
theorem t44 (X : K.In h) (G : h.Ns mainGlobals mg) (c : He.SaysD fcs dfs K) : LibOk P w K mg base (fun x => L44.lookup x) := by
  obtain ⟨fd, F⟩ := c.def_ 33 (d := d_law_odd_numbers) rfl
  exact def_in (t43 X G c) F (He.glo_ok X G (c.fact 43 (f := .glo "_law_odd_numbers") rfl)) z_law_odd_numbers c_law_odd_numbers fun _ _ _ _ _ _ us ws hl => match us, ws, hl with | [], [_, _], _ => rfl | [_], [_], _ => rfl | [_, _], [], _ => rfl
theorem c_law_questions_right : cDef 60 ["pen", "key", "other", "yes", "odd", "value", "no"] (defScope (top 47)) 4 (fun x => L44.lookup x) (defBody (top 47)) = some b_law_questions_right := by kernel_rfl
theorem z_law_questions_right : C8.scC ["pen", "key", "other", "yes", "odd", "value", "no"] ["pen"] (defScope (top 47)) = true := by decide +kernel
theorem t45 (X : K.In h) (G : h.Ns mainGlobals mg) (c : He.SaysD fcs dfs K) : LibOk P w K mg base (fun x => L45.lookup x) := by
  obtain ⟨fd, F⟩ := c.def_ 34 (d := d_law_questions_right) rfl
  exact def_in (t44 X G c) F (He.glo_ok X G (c.fact 44 (f := .glo "_law_questions_right") rfl)) z_law_questions_right c_law_questions_right fun _ _ _ _ _ _ us ws hl => match us, ws, hl with | [], [_], _ => rfl | [_], [], _ => rfl
theorem c_law_scans_right : cDef 60 ["pen", "some", "first", "last", "at", "asked", "full", "yes", "odd", "value", "no", "longer"] (defScope (top 48)) 6 (fun x => L45.lookup x) (defBody (top 48)) = some b_law_scans_right := by kernel_rfl
theorem z_law_scans_right : C8.scC ["pen", "some", "first", "last", "at", "asked", "full", "yes", "odd", "value", "no", "longer"] ["pen"] (defScope (top 48)) = true := by decide +kernel
theorem t46 (X : K.In h) (G : h.Ns mainGlobals mg) (c : He.SaysD fcs dfs K) : LibOk P w K mg base (fun x => L46.lookup x) := by
  obtain ⟨fd, F⟩ := c.def_ 35 (d := d_law_scans_right) rfl
  exact def_in (t45 X G c) F (He.glo_ok X G (c.fact 45 (f := .glo "_law_scans_right") rfl)) z_law_scans_right c_law_scans_right fun _ _ _ _ _ _ us ws hl => match us, ws, hl with | [], [_], _ => rfl | [_], [], _ => rfl
theorem c_law_answers_right : cDef 60 ["pen", "key", "text", "asked", "yes", "no", "value"] (defScope (top 49)) 5 (fun x => L46.lookup x) (defBody (top 49)) = some b_law_answers_right := by kernel_rfl
theorem z_law_answers_right : C8.scC ["pen", "key", "text", "asked", "yes", "no", "value"] ["pen"] (defScope (top 49)) = true := by decide +kernel
theorem t47 (X : K.In h) (G : h.Ns mainGlobals mg) (c : He.SaysD fcs dfs K) : LibOk P w K mg base (fun x => L47.lookup x) := by
  obtain ⟨fd, F⟩ := c.def_ 36 (d := d_law_answers_right) rfl
  exact def_in (t46 X G c) F (He.glo_ok X G (c.fact 46 (f := .glo "_law_answers_right") rfl)) z_law_answers_right c_law_answers_right fun _ _ _ _ _ _ us ws hl => match us, ws, hl with | [], [_], _ => rfl | [_], [], _ => rfl
theorem c_law_notes_right : cDef 60 ["pen", "asked", "answer", "yes", "moment", "odd", "value", "no"] (defScope (top 50)) 7 (fun x => L47.lookup x) (defBody (top 50)) = some b_law_notes_right := by kernel_rfl
theorem z_law_notes_right : C8.scC ["pen", "asked", "answer", "yes", "moment", "odd", "value", "no"] ["pen"] (defScope (top 50)) = true := by decide +kernel
theorem t48 (X : K.In h) (G : h.Ns mainGlobals mg) (c : He.SaysD fcs dfs K) : LibOk P w K mg base (fun x => L48.lookup x) := by
  obtain ⟨fd, F⟩ := c.def_ 37 (d := d_law_notes_right) rfl
  exact def_in (t47 X G c) F (He.glo_ok X G (c.fact 47 (f := .glo "_law_notes_right") rfl)) z_law_notes_right c_law_notes_right fun _ _ _ _ _ _ us ws hl => match us, ws, hl with | [], [_], _ => rfl | [_], [], _ => rfl
theorem c_law_odd_runs : cDef 60 ["pen", "run", "notes", "place", "odd", "low", "value", "late", "at"] (defScope (top 51)) 1 (fun x => L48.lookup x) (defBody (top 51)) = some b_law_odd_runs := by kernel_rfl
theorem z_law_odd_runs : C8.scC ["pen", "run", "notes", "place", "odd", "low", "value", "late", "at"] ["pen", "run"] (defScope (top 51)) = true := by decide +kernel
theorem t49 (X : K.In h) (G : h.Ns mainGlobals mg) (c : He.SaysD fcs dfs K) : LibOk P w K mg base (fun x => L49.lookup x) := by
  obtain ⟨fd, F⟩ := c.def_ 38 (d := d_law_odd_runs) rfl
  exact def_in (t48 X G c) F (He.glo_ok X G (c.fact 48 (f := .glo "_law_odd_runs") rfl)) z_law_odd_runs c_law_odd_runs fun _ _ _ _ _ _ us ws hl => match us, ws, hl with | [], [_, _], _ => rfl | [_], [_], _ => rfl | [_, _], [], _ => rfl
theorem c_law_runs_right : cDef 60 ["pen", "yes", "no", "number", "run", "value", "many", "k"] (defScope (top 52)) 8 (fun x => L49.lookup x) (defBody (top 52)) = some b_law_runs_right := by kernel_rfl
theorem z_law_runs_right : C8.scC ["pen", "yes", "no", "number", "run", "value", "many", "k"] ["pen"] (defScope (top 52)) = true := by decide +kernel
theorem t50 (X : K.In h) (G : h.Ns mainGlobals mg) (c : He.SaysD fcs dfs K) : LibOk P w K mg base (fun x => L50.lookup x) := by
  obtain ⟨fd, F⟩ := c.def_ 39 (d := d_law_runs_right) rfl
  exact def_in (t49 X G c) F (He.glo_ok X G (c.fact 49 (f := .glo "_law_runs_right") rfl)) z_law_runs_right c_law_runs_right fun _ _ _ _ _ _ us ws hl => match us, ws, hl with | [], [_], _ => rfl | [_], [], _ => rfl
theorem c_law_odd_accounts : cDef 60 ["pen", "some", "at", "name", "runs", "k", "fresh", "odd", "value"] (defScope (top 53)) 2 (fun x => L50.lookup x) (defBody (top 53)) = some b_law_odd_accounts := by kernel_rfl
theorem z_law_odd_accounts : C8.scC ["pen", "some", "at", "name", "runs", "k", "fresh", "odd", "value"] ["pen", "some"] (defScope (top 53)) = true := by decide +kernel
theorem t51 (X : K.In h) (G : h.Ns mainGlobals mg) (c : He.SaysD fcs dfs K) : LibOk P w K mg base (fun x => L51.lookup x) := by
  obtain ⟨fd, F⟩ := c.def_ 40 (d := d_law_odd_accounts) rfl
  exact def_in (t50 X G c) F (He.glo_ok X G (c.fact 50 (f := .glo "_law_odd_accounts") rfl)) z_law_odd_accounts c_law_odd_accounts fun _ _ _ _ _ _ us ws hl => match us, ws, hl with | [], [_, _], _ => rfl | [_], [_], _ => rfl | [_, _], [], _ => rfl
theorem c_law_bounds_right : cDef 60 ["pen", "some", "at", "name", "runs", "deals", "k", "run", "yes", "more", "odd", "part", "no", "value"] (defScope (top 54)) 11 (fun x => L51.lookup x) (defBody (top 54)) = some b_law_bounds_right := by kernel_rfl
theorem z_law_bounds_right : C8.scC ["pen", "some", "at", "name", "runs", "deals", "k", "run", "yes", "more", "odd", "part", "no", "value"] ["pen"] (defScope (top 54)) = true := by decide +kernel
theorem t52 (X : K.In h) (G : h.Ns mainGlobals mg) (c : He.SaysD fcs dfs K) : LibOk P w K mg base (fun x => L52.lookup x) := by
  obtain ⟨fd, F⟩ := c.def_ 41 (d := d_law_bounds_right) rfl
  exact def_in (t51 X G c) F (He.glo_ok X G (c.fact 51 (f := .glo "_law_bounds_right") rfl)) z_law_bounds_right c_law_bounds_right fun _ _ _ _ _ _ us ws hl => match us, ws, hl with | [], [_], _ => rfl | [_], [], _ => rfl
theorem c_law_accounts_right : cDef 60 ["pen", "some", "no", "value"] (defScope (top 55)) 11 (fun x => L52.lookup x) (defBody (top 55)) = some b_law_accounts_right := by kernel_rfl
theorem z_law_accounts_right : C8.scC ["pen", "some", "no", "value"] ["pen"] (defScope (top 55)) = true := by decide +kernel
theorem t53 (X : K.In h) (G : h.Ns mainGlobals mg) (c : He.SaysD fcs dfs K) : LibOk P w K mg base (fun x => L53.lookup x) := by
  obtain ⟨fd, F⟩ := c.def_ 42 (d := d_law_accounts_right) rfl
  exact def_in (t52 X G c) F (He.glo_ok X G (c.fact 52 (f := .glo "_law_accounts_right") rfl)) z_law_accounts_right c_law_accounts_right fun _ _ _ _ _ _ us ws hl => match us, ws, hl with | [], [_], _ => rfl | [_], [], _ => rfl
theorem c_law : cDef 60 ["script", "pen"] (defScope (top 56)) 12 (fun x => L53.lookup x) (defBody (top 56)) = some b_law := by kernel_rfl
theorem z_law : C8.scC ["script", "pen"] ["script"] (defScope (top 56)) = true := by decide +kernel
theorem t54 (X : K.In h) (G : h.Ns mainGlobals mg) (c : He.SaysD fcs dfs K) : LibOk P w K mg base (fun x => L54.lookup x) := by
  obtain ⟨fd, F⟩ := c.def_ 43 (d := d_law) rfl
  exact def_in (t53 X G c) F (He.glo_ok X G (c.fact 53 (f := .glo "law") rfl)) z_law c_law fun _ _ _ _ _ _ us ws hl => match us, ws, hl with | [], [_], _ => rfl | [_], [], _ => rfl
end
end Lwk11
set_option Elab.async false
set_option linter.all false
set_option maxRecDepth 100000
set_option maxHeartbeats 0
namespace Lwk11
open PySem PySem.Spec L2 Mi
open PyProof.Rows hiding St
theorem law_in {P : Program} {w : World} {K : PySem.W.Frag} {mg : Str → Option Value} {base h : Heap} {fa : Addr} (X : K.In h) (G : h.Ns mainGlobals mg) (c : He.SaysD fcs dfs K) (hm : mg ("law" : Str) = some (.ref fa)) : ∃ fd, Bd K fd ["script"] ∧ FnG P w K mg base 13 fa fd ["script"] F_law := by
  obtain ⟨f, fd, m1, _, m3, m4⟩ := (t54 (P := P) (w := w) (base := base) X G c).fn "law" 13 ["script"] F_law rfl
  cases hm.symm.trans m1
  exact ⟨fd, m3, m4⟩
end Lwk11
open PySem PySem.W PySem.Calls PyProof.Rows
theorem holds_of (hF : Mi.saysTrue Lwk11.F_law 63) : PySem.Challenge.rw_noteskept_k11_forms_of_accounts.Holds := by
  w_on; o_law
  refine HandSHeadRun.head_any (r := OpenLaw.row PySem.Challenge.rw_noteskept_k11_forms_of_accounts) (q := view (OpenLaw.row PySem.Challenge.rw_noteskept_k11_forms_of_accounts).prog [56]) (H := Lwk11.hok) (ob := Lwk11.obs) (M := 3000) (loose := Lwk11.lse) (d := HandSHeadRun.topDef (OpenLaw.row PySem.Challenge.rw_noteskept_k11_forms_of_accounts).prog 56) (kwd := []) Lwk11.obs_eq
    (by kernel_rfl) (fun s => by kernel_rfl) Lwk11.run (by kernel_rfl) (by kernel_rfl) (by kernel_rfl) (by rfl) (by first | assumption | decide +kernel) (by decide +kernel) ⟨rfl, rfl, rfl, rfl, rfl, by decide +kernel⟩ ?hw ?hc
  case hw => w_witness2
  case hc =>
    refine Mi.walkG (l := PySem.Challenge.rw_noteskept_k11_forms_of_accounts) (n := 63) (k := 13) (x := "script") rfl (by decide) (by kernel_rfl) ⟨rfl, by decide, by decide⟩ hF ?_
    intro w mg fa h Y G hmg0
    obtain ⟨K, KX, c⟩ := Y
    have hmg : mg ("law" : PySem.Str) = some (.ref fa) := by
      have e : (HandSHeadRun.topDef (OpenLaw.row PySem.Challenge.rw_noteskept_k11_forms_of_accounts).prog 56).name = ("law" : PySem.Str) := by kernel_rfl
      rw [← e]
      exact hmg0
    exact ⟨K, KX, fun base _ _ => Lwk11.law_in KX G c hmg⟩
theorem PySem.Challenge.cw_noteskept_k11_forms_of_accounts_holds : PySem.Challenge.rw_noteskept_k11_forms_of_accounts.Holds :=
  holds_of Lwk11.law_true
