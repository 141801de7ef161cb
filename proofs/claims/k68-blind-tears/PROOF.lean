import PyProof.Rows.All
import Wide.All
import OpenK.AllK
import Wide.FinOn
import HandS.ForMost
import HandS.TupAny
import HandS.Style
import HandS.Deep
import HandS.IsInst
import KE.SortData
import KE.DataMinMax
import KE.DataCmp
import HandS.SetKeys
import HandS.DictComp
import HandS.Iter
import KE.GoesEnum
import KE.KRevSl
import PyProof.ReprRoads
import PySem.Challenge.RW_haltstoreys_k68_blind_tears
set_option Elab.async false
set_option linter.all false
set_option maxRecDepth 100000
set_option maxHeartbeats 4000000
/-! The data layer, part a: values as trees, what represents what, readings over data. -/
namespace DL
open PySem PySem.Spec L2

/-- a value as a tree; a mutable object is only pointed at -/
inductive D where
  | non | bl (b : Bool) | int (i : Int) | str (x : Str)
  | tup (xs : List D) | lst (xs : List D) | fz (xs : List D) | ptr (a : Addr)
  deriving Inhabited
/-- what stands at a mutable object of which we know -/
inductive Cell where
  | lst (ds : List D)
  | dK (kvs : List (Key × D))
  | dT (kvs : List (List Key × D))
abbrev Mm := Addr → Option Cell
def Mm.upd (M : Mm) (a : Addr) (c : Cell) : Mm := fun b => if b = a then some c else M b
theorem Mm.upd_same {M : Mm} {a : Addr} {c : Cell} : M.upd a c a = some c := if_pos rfl
theorem Mm.upd_ne {M : Mm} {a b : Addr} {c : Cell} (h : b ≠ a) : M.upd a c b = M b := if_neg h
theorem Mm.upd_upd {M : Mm} {a : Addr} {c d : Cell} : (M.upd a c).upd a d = M.upd a d := by
  funext b
  unfold Mm.upd
  by_cases h : b = a
  · rw [if_pos h, if_pos h]
  · rw [if_neg h, if_neg h, if_neg h]
theorem Mm.apart {M : Mm} {a b : Addr} {c : Cell} (h : M a = some c) (n : M b = none) : a ≠ b := fun e => by
  rw [e, n] at h
  cases h

/-! ### what represents what -/
/-- a list that nobody changes any more -/
def SL (K : PySem.W.Frag) (M : Mm) (H : Hp) (a : Addr) (xs : List V) : Prop := (Rd H a (.lst xs) ∧ M a = none) ∨
    ∃ (o : Obj) (its : Array Value) (n : Nat), K.lookup a = some o ∧ o.cls = .type "list" ∧ o.dict = none ∧ o.data = .seq its n ∧ its.size ≤ sizeLine ∧ Vals xs its.toList
theorem SL.sq {K : PySem.W.Frag} {M : Mm} {H : Hp} {a : Addr} {xs : List V} (h : SL K M H a xs) : SqL K H a xs := by
  rcases h with ⟨h, _⟩ | h
  · exact .inl h
  · exact .inr h
mutual
inductive Rep (K : PySem.W.Frag) (M : Mm) (H : Hp) : V → D → Prop
  | non : Rep K M H .non .non
  | bl (b : Bool) : Rep K M H (.bl b) (.bl b)
  | int (i : Int) : Rep K M H (.int i) (.int i)
  | str (x : Str) : Rep K M H (.str x) (.str x)
  | ptr (a : Addr) : Rep K M H (.ref a) (.ptr a)
  | tup {a : Addr} {xs : List V} {ds : List D} : H a = some (.tup xs) → RepA K M H xs ds → Rep K M H (.ref a) (.tup ds)
  | lst {a : Addr} {xs : List V} {ds : List D} : H a = some (.lst xs) → M a = none → RepA K M H xs ds → Rep K M H (.ref a) (.lst ds)
  | fz {a : Addr} {xs : List V} {ds : List D} : SL K M H a xs → RepA K M H xs ds → Rep K M H (.ref a) (.fz ds)
inductive RepA (K : PySem.W.Frag) (M : Mm) (H : Hp) : List V → List D → Prop
  | nil : RepA K M H [] []
  | cons {v : V} {vs : List V} {d : D} {ds : List D} : Rep K M H v d → RepA K M H vs ds → RepA K M H (v :: vs) (d :: ds)
end
def CellR (K : PySem.W.Frag) (M : Mm) (H : Hp) (a : Addr) : Cell → Prop
  | .lst ds => ∃ xs, H a = some (.lst xs) ∧ RepA K M H xs ds
  | .dK kvs => ∃ ys, H a = some (.dK ys) ∧ ys.map (·.1) = kvs.map (·.1) ∧ RepA K M H (ys.map (·.2)) (kvs.map (·.2))
  | .dT kvs => ∃ ys, H a = some (.dT ys) ∧ ys.map (·.1) = kvs.map (·.1) ∧ RepA K M H (ys.map (·.2)) (kvs.map (·.2))
/-- the abstract memory is held -/
def Sim (K : PySem.W.Frag) (M : Mm) (H : Hp) : Prop := ∀ a c, M a = some c → CellR K M H a c
/-- what was there and is not ours to change stays, and stays so -/
def Stp (M : Mm) (H : Hp) (M' : Mm) (H' : Hp) : Prop := ∀ a o, H a = some o → M a = none → H' a = some o ∧ M' a = none
section
variable {K : PySem.W.Frag} {M M' M2 : Mm} {H H' H2 : Hp} {v : V} {d : D} {vs : List V} {ds : List D} {a : Addr} {c : Cell}
theorem Stp.refl : Stp M H M H := fun _ _ h n => ⟨h, n⟩
theorem Stp.trans (s : Stp M H M' H') (t : Stp M' H' M2 H2) : Stp M H M2 H2 := fun a o h n =>
  let ⟨h1, n1⟩ := s a o h n
  t a o h1 n1
theorem Sim.there (S : Sim K M H) (h : M a = some c) : ∃ o, H a = some o ∧ ((∃ xs, o = .lst xs) ∨ (∃ ys, o = .dK ys) ∨ ∃ ys, o = .dT ys) := by
  have q := S a c h
  cases c with
  | lst ds =>
    obtain ⟨xs, e, _⟩ := q
    exact ⟨_, e, .inl ⟨xs, rfl⟩⟩
  | dK kvs =>
    obtain ⟨ys, e, _⟩ := q
    exact ⟨_, e, .inr (.inl ⟨ys, rfl⟩)⟩
  | dT kvs =>
    obtain ⟨ys, e, _⟩ := q
    exact ⟨_, e, .inr (.inr ⟨ys, rfl⟩)⟩
theorem Sim.free (S : Sim K M H) (h : H a = none) : M a = none := by
  cases e : M a with
  | none => rfl
  | some c =>
    obtain ⟨o, ho, _⟩ := S.there e
    rw [h] at ho
    cases ho
theorem Sim.tupN (S : Sim K M H) {xs : List V} (h : H a = some (.tup xs)) : M a = none := by
  cases e : M a with
  | none => rfl
  | some c =>
    obtain ⟨o, ho, q⟩ := S.there e
    rw [h] at ho
    cases ho
    rcases q with ⟨_, e⟩ | ⟨_, e⟩ | ⟨_, e⟩ <;> cases e
theorem Sim.frzN (S : Sim K M H) {ob : Obj} {u : HO} (h : H a = some (.frz ob u)) : M a = none := by
  cases e : M a with
  | none => rfl
  | some c =>
    obtain ⟨o, ho, q⟩ := S.there e
    rw [h] at ho
    cases ho
    rcases q with ⟨_, e⟩ | ⟨_, e⟩ | ⟨_, e⟩ <;> cases e
theorem Stp.lst (s : Stp M H M' H') {xs : List V} (h : SL K M H a xs) : SL K M' H' a xs := by
  rcases h with ⟨h | ⟨o, h⟩, n⟩ | h
  · exact .inl ⟨.inl (s _ _ h n).1, (s _ _ h n).2⟩
  · exact .inl ⟨.inr ⟨o, (s _ _ h n).1⟩, (s _ _ h n).2⟩
  · exact .inr h
mutual
theorem Rep.mono (S : Sim K M H) (s : Stp M H M' H') : ∀ (d : D) (v : V), Rep K M H v d → Rep K M' H' v d
  | .non, _, h => by cases h; exact .non
  | .bl _, _, h => by cases h; exact .bl _
  | .int _, _, h => by cases h; exact .int _
  | .str _, _, h => by cases h; exact .str _
  | .ptr _, _, h => by cases h; exact .ptr _
  | .tup ds, _, h => by
    cases h with
    | tup q r => exact .tup (s _ _ q (S.tupN q)).1 (RepA.mono S s ds _ r)
  | .lst ds, _, h => by
    cases h with
    | lst q n r => exact .lst (s _ _ q n).1 (s _ _ q n).2 (RepA.mono S s ds _ r)
  | .fz ds, _, h => by
    cases h with
    | fz q r => exact .fz (s.lst q) (RepA.mono S s ds _ r)
theorem RepA.mono (S : Sim K M H) (s : Stp M H M' H') : ∀ (ds : List D) (vs : List V), RepA K M H vs ds → RepA K M' H' vs ds
  | [], _, h => by cases h; exact .nil
  | d :: ds, _, h => by
    cases h with
    | cons r q => exact .cons (Rep.mono S s d _ r) (RepA.mono S s ds _ q)
end
/-- less may be known of the memory -/
def Sub (M M' : Mm) : Prop := ∀ a c, M a = some c → M' a = some c
theorem Sub.refl : Sub M M := fun _ _ h => h
theorem Sub.trans (s : Sub M M') (t : Sub M' M2) : Sub M M2 := fun a c h => t a c (s a c h)
theorem Sub.new (n : M' a = none) (s : Sub M M') : Sub M (M'.upd a c) := fun b e h => by
  have q := s b e h
  rw [Mm.upd_ne (Mm.apart q n)]
  exact q
theorem Sub.put (n : M a = none) (s : Sub M M') : Sub M (M'.upd a c) := fun b e h => by
  rw [Mm.upd_ne (Mm.apart h n)]
  exact s b e h
theorem Sub.none (s : Sub M M') (n : M' a = none) : M a = none := by
  cases e : M a with
  | none => rfl
  | some c =>
    have q := s a c e
    rw [n] at q
    cases q
theorem SL.less (s : Sub M M') {xs : List V} (h : SL K M' H a xs) : SL K M H a xs := by
  rcases h with ⟨h, n⟩ | h
  · exact .inl ⟨h, s.none n⟩
  · exact .inr h
mutual
theorem Rep.less (s : Sub M M') : ∀ (d : D) (v : V), Rep K M' H v d → Rep K M H v d
  | .non, _, h => by cases h; exact .non
  | .bl _, _, h => by cases h; exact .bl _
  | .int _, _, h => by cases h; exact .int _
  | .str _, _, h => by cases h; exact .str _
  | .ptr _, _, h => by cases h; exact .ptr _
  | .tup ds, _, h => by
    cases h with
    | tup q r => exact .tup q (RepA.less s ds _ r)
  | .lst ds, _, h => by
    cases h with
    | lst q n r => exact .lst q (s.none n) (RepA.less s ds _ r)
  | .fz ds, _, h => by
    cases h with
    | fz q r => exact .fz (q.less s) (RepA.less s ds _ r)
theorem RepA.less (s : Sub M M') : ∀ (ds : List D) (vs : List V), RepA K M' H vs ds → RepA K M H vs ds
  | [], _, h => by cases h; exact .nil
  | d :: ds, _, h => by
    cases h with
    | cons r q => exact .cons (Rep.less s d _ r) (RepA.less s ds _ q)
end
theorem Sim.less (s : Sub M M') (S : Sim K M' H) : Sim K M H := fun a c h => by
  have q := S a c (s a c h)
  cases c with
  | lst ds =>
    obtain ⟨xs, e, r⟩ := q
    exact ⟨xs, e, r.less s⟩
  | dK kvs =>
    obtain ⟨ys, e, k, r⟩ := q
    exact ⟨ys, e, k, r.less s⟩
  | dT kvs =>
    obtain ⟨ys, e, k, r⟩ := q
    exact ⟨ys, e, k, r.less s⟩
theorem Stp.less (s : Sub M2 M') (t : Stp M H M' H') : Stp M H M2 H' := fun a o h n =>
  let ⟨h1, n1⟩ := t a o h n
  ⟨h1, s.none n1⟩
/-- a new object, not (yet) a cell of ours -/
theorem Stp.lay {o : HO} (n : H a = none) : Stp M H M (upd H a o) := fun b u h m => ⟨by rw [upd_ne (ne_of_none h n)]; exact h, m⟩
theorem CellR.mono (S : Sim K M H) (s : Stp M H M' H') (h : CellR K M H a c) (hh : ∀ o, H a = some o → H' a = some o) : CellR K M' H' a c := by
  cases c with
  | lst ds =>
    obtain ⟨xs, e, r⟩ := h
    exact ⟨xs, hh _ e, r.mono S s⟩
  | dK kvs =>
    obtain ⟨ys, e, k, r⟩ := h
    exact ⟨ys, hh _ e, k, r.mono S s⟩
  | dT kvs =>
    obtain ⟨ys, e, k, r⟩ := h
    exact ⟨ys, hh _ e, k, r.mono S s⟩
theorem Sim.lay {o : HO} (S : Sim K M H) (n : H a = none) : Sim K M (upd H a o) := fun b c h =>
  (S b c h).mono S (Stp.lay n) fun u e => by rw [upd_ne (ne_of_none e n)]; exact e
/-- a new list that is a cell of ours -/
theorem Stp.cell {o : HO} (n : H a = none) : Stp M H (M.upd a c) (upd H a o) := fun b u h m =>
  ⟨by rw [upd_ne (ne_of_none h n)]; exact h, by rw [Mm.upd_ne (ne_of_none h n)]; exact m⟩
/-- a cell of ours is changed (or made) -/
theorem Stp.put {o : HO} (n : M a ≠ none ∨ H a = none) : Stp M H (M.upd a c) (upd H a o) := fun b u h m => by
  have ne : b ≠ a := fun e => by
    subst e
    rcases n with n | n
    · exact n m
    · rw [n] at h
      cases h
  exact ⟨by rw [L2.upd_ne ne]; exact h, by rw [Mm.upd_ne ne]; exact m⟩
theorem Sim.put {o : HO} (S : Sim K M H) (n : M a ≠ none ∨ H a = none) (q : CellR K (M.upd a c) (upd H a o) a c) : Sim K (M.upd a c) (upd H a o) := fun b e h => by
  by_cases hb : b = a
  · subst hb
    rw [Mm.upd_same] at h
    cases h
    exact q
  · rw [Mm.upd_ne hb] at h
    exact (S b e h).mono S (Stp.put n) fun u z => by rw [L2.upd_ne hb]; exact z
theorem RepA.length : ∀ {vs : List V} {ds : List D}, RepA K M H vs ds → vs.length = ds.length
  | _, _, .nil => rfl
  | _, _, .cons _ q => by rw [List.length_cons, List.length_cons, RepA.length q]
theorem RepA.get : ∀ {vs : List V} {ds : List D} {i : Nat} {d : D}, RepA K M H vs ds → ds[i]? = some d → ∃ v, vs[i]? = some v ∧ Rep K M H v d
  | _, _, _, _, .nil, h => by simp at h
  | _, _, 0, _, .cons r _, h => by
    simp at h
    subst h
    exact ⟨_, rfl, r⟩
  | _, _, i + 1, _, .cons _ q, h => by
    obtain ⟨v, h1, h2⟩ := RepA.get (i := i) q (by simpa using h)
    exact ⟨v, by simpa using h1, h2⟩
theorem RepA.getV : ∀ {vs : List V} {ds : List D} {i : Nat} {v : V}, RepA K M H vs ds → vs[i]? = some v → ∃ d, ds[i]? = some d ∧ Rep K M H v d
  | _, _, _, _, .nil, h => by simp at h
  | _, _, 0, _, .cons r _, h => by
    simp at h
    subst h
    exact ⟨_, rfl, r⟩
  | _, _, i + 1, _, .cons _ q, h => by
    obtain ⟨v, h1, h2⟩ := RepA.getV (i := i) q (by simpa using h)
    exact ⟨v, by simpa using h1, h2⟩
theorem RepA.append : ∀ {vs us : List V} {ds es : List D}, RepA K M H vs ds → RepA K M H us es → RepA K M H (vs ++ us) (ds ++ es)
  | _, _, _, _, .nil, q => q
  | _, _, _, _, .cons r p, q => .cons r (RepA.append p q)
theorem RepA.set : ∀ {vs : List V} {ds : List D} (i : Nat), RepA K M H vs ds → Rep K M H v d → RepA K M H (vs.set i v) (ds.set i d)
  | _, _, _, .nil, _ => .nil
  | _, _, 0, .cons _ q, r => .cons r q
  | _, _, i + 1, .cons p q, r => .cons p (RepA.set i q r)
theorem RepA.take : ∀ {vs : List V} {ds : List D} (n : Nat), RepA K M H vs ds → RepA K M H (vs.take n) (ds.take n)
  | _, _, 0, _ => .nil
  | _, _, _ + 1, .nil => .nil
  | _, _, n + 1, .cons r q => .cons r (RepA.take n q)
theorem RepA.drop : ∀ {vs : List V} {ds : List D} (n : Nat), RepA K M H vs ds → RepA K M H (vs.drop n) (ds.drop n)
  | _, _, 0, q => q
  | _, _, _ + 1, .nil => .nil
  | _, _, n + 1, .cons _ q => RepA.drop n q
theorem RepA.reverse : ∀ {vs : List V} {ds : List D}, RepA K M H vs ds → RepA K M H vs.reverse ds.reverse
  | _, _, .nil => .nil
  | _, _, .cons r q => by
    rw [List.reverse_cons, List.reverse_cons]
    exact (RepA.reverse q).append (.cons r .nil)
theorem RepA.eraseIdx : ∀ {vs : List V} {ds : List D} (n : Nat), RepA K M H vs ds → RepA K M H (vs.eraseIdx n) (ds.eraseIdx n)
  | _, _, _, .nil => .nil
  | _, _, 0, .cons _ q => q
  | _, _, n + 1, .cons r q => .cons r (RepA.eraseIdx n q)
theorem RepA.perm {us : List V} (p : us.Perm vs) : ∀ {ds : List D}, RepA K M H vs ds → ∃ es, es.Perm ds ∧ RepA K M H us es := by
  induction p with
  | nil => intro ds q; exact ⟨ds, List.Perm.refl _, q⟩
  | cons x _ ih =>
    intro ds q
    cases q with
    | cons r q =>
      obtain ⟨es, pe, re⟩ := ih q
      exact ⟨_ :: es, pe.cons _, .cons r re⟩
  | swap x y l =>
    intro ds q
    cases q with
    | cons r q =>
      cases q with
      | cons r2 q => exact ⟨_ :: _ :: _, List.Perm.swap _ _ _, .cons r2 (.cons r q)⟩
  | trans _ _ ih1 ih2 =>
    intro ds q
    obtain ⟨es, pe, re⟩ := ih2 q
    obtain ⟨fs, pf, rf⟩ := ih1 re
    exact ⟨fs, pf.trans pe, rf⟩
theorem RepA.ints : ∀ {vs : List V} {ns : List Int}, RepA K M H vs (ns.map D.int) → vs = ns.map V.int
  | _, [], .nil => rfl
  | _, n :: ns, .cons r q => by
    cases r
    rw [RepA.ints q]
    rfl
theorem RepA.strs : ∀ {vs : List V} {ns : List Str}, RepA K M H vs (ns.map D.str) → vs = ns.map V.str
  | _, [], .nil => rfl
  | _, n :: ns, .cons r q => by
    cases r
    rw [RepA.strs q]
    rfl
theorem RepA.of_ints : ∀ {ns : List Int}, RepA K M H (ns.map V.int) (ns.map D.int)
  | [] => .nil
  | _ :: _ => .cons (.int _) RepA.of_ints
theorem RepA.of_strs : ∀ {ns : List Str}, RepA K M H (ns.map V.str) (ns.map D.str)
  | [] => .nil
  | _ :: _ => .cons (.str _) RepA.of_strs
end

/-! ### readings over data -/
abbrev Env := List (Option D)
abbrev DK := D → Mm → Prop
abbrev DE := Env → Mm → DK → Prop
abbrev DT := Env → Mm → (Bool → Mm → Prop) → Prop
abbrev DA := Env → Mm → (List D → Mm → Prop) → Prop
abbrev DO := Env → Mm → (Option Int → Mm → Prop) → Prop
abbrev DG := D → Env → Mm → (Env → Mm → Prop) → Prop
abbrev DGs := List D → Env → Mm → (Env → Mm → Prop) → Prop
structure DEnds where
  nx : Env → Mm → Prop
  rt : DK
  bk : Env → Mm → Prop := fun _ _ => False
  ct : Env → Mm → Prop := fun _ _ => False
abbrev DS := DEnds → Env → Mm → Prop

structure EnvR (K : PySem.W.Frag) (M : Mm) (H : Hp) (σ' : Env) (σ : St) : Prop where
  len : σ'.length = σ.length
  at_ : ∀ (i : Nat) (d : D), σ'[i]? = some (some d) → ∃ v, σ[i]? = some (some v) ∧ Rep K M H v d

def After (K : PySem.W.Frag) (M : Mm) (H : Hp) (R : DK) (Q : VK) : Prop := ∀ d M' v H', Sim K M' H' → Stp M H M' H' → Rep K M' H' v d → R d M' → Q v H'
def AfterB (K : PySem.W.Frag) (M : Mm) (H : Hp) (R : Bool → Mm → Prop) (Q : Bool → Hp → Prop) : Prop := ∀ b M' H', Sim K M' H' → Stp M H M' H' → R b M' → Q b H'
def AfterA (K : PySem.W.Frag) (n : Nat) (M : Mm) (H : Hp) (R : List D → Mm → Prop) (Q : List V → Hp → Prop) : Prop := ∀ ds M' vs H', ds.length = n → Sim K M' H' → Stp M H M' H' → RepA K M' H' vs ds → R ds M' → Q vs H'
def AfterO (K : PySem.W.Frag) (M : Mm) (H : Hp) (R : Option Int → Mm → Prop) (Q : Option Int → Hp → Prop) : Prop := ∀ o M' H', Sim K M' H' → Stp M H M' H' → R o M' → Q o H'
def AfterS (K : PySem.W.Frag) (M : Mm) (H : Hp) (R : Env → Mm → Prop) (N : St → Hp → Prop) : Prop := ∀ σ' M' σ H', EnvR K M' H' σ' σ → Sim K M' H' → Stp M H M' H' → R σ' M' → N σ H'
structure AfterD (K : PySem.W.Frag) (M : Mm) (H : Hp) (R : DEnds) (N : Ends) : Prop where
  nx : AfterS K M H R.nx N.nx
  rt : After K M H R.rt N.rt
  bk : AfterS K M H R.bk N.bk
  ct : AfterS K M H R.ct N.ct

def ReE (K : PySem.W.Frag) (t : TE) (τ : DE) : Prop := ∀ σ' M σ H R Q, EnvR K M H σ' σ → Sim K M H → After K M H R Q → τ σ' M R → t σ H Q
def ReT (K : PySem.W.Frag) (t : TT) (τ : DT) : Prop := ∀ σ' M σ H R Q, EnvR K M H σ' σ → Sim K M H → AfterB K M H R Q → τ σ' M R → t σ H Q
def ReA (K : PySem.W.Frag) (n : Nat) (t : TA) (τ : DA) : Prop := ∀ σ' M σ H R Q, EnvR K M H σ' σ → Sim K M H → AfterA K n M H R Q → τ σ' M R → t σ H Q
def ReO (K : PySem.W.Frag) (t : TO) (τ : DO) : Prop := ∀ σ' M σ H R Q, EnvR K M H σ' σ → Sim K M H → AfterO K M H R Q → τ σ' M R → t σ H Q
def ReG (K : PySem.W.Frag) (t : TG) (τ : DG) : Prop := ∀ d v σ' M σ H R Q, EnvR K M H σ' σ → Sim K M H → Rep K M H v d → AfterS K M H R Q → τ d σ' M R → t v σ H Q
def ReGs (K : PySem.W.Frag) (t : TGs) (τ : DGs) : Prop := ∀ ds vs σ' M σ H R Q, EnvR K M H σ' σ → Sim K M H → RepA K M H vs ds → AfterS K M H R Q → τ ds σ' M R → t vs σ H Q
def ReS (K : PySem.W.Frag) (t : TS) (τ : DS) : Prop := ∀ R N σ' M σ H, EnvR K M H σ' σ → Sim K M H → AfterD K M H R N → τ R σ' M → t N σ H

structure JE (X : Cx) (e : Expr) (τ : DE) : Prop where
  ex : ∃ t, PE X e t ∧ ReE X.K t τ
structure JT (X : Cx) (e : Expr) (τ : DT) : Prop where
  ex : ∃ t, PT X e t ∧ ReT X.K t τ
structure JW (X : Cx) (e : Expr) (τ : DT) : Prop where
  ex : ∃ t, PW X e t ∧ ReT X.K t τ
structure JA (X : Cx) (es : List Expr) (τ : DA) : Prop where
  ex : ∃ t, PA X es t ∧ ReA X.K es.length t τ
structure JO (X : Cx) (e : Option Expr) (τ : DO) : Prop where
  ex : ∃ t, PO X e t ∧ ReO X.K t τ
structure JG (X : Cx) (e : Expr) (τ : DG) : Prop where
  ex : ∃ t, PG X e t ∧ ReG X.K t τ
structure JGs (X : Cx) (es : List Expr) (τ : DGs) : Prop where
  ex : ∃ t, PGs X es t ∧ ReGs X.K t τ
structure JS (X : Cx) (st : Stmt) (τ : DS) : Prop where
  ex : ∃ t, PS X st t ∧ ReS X.K t τ
structure JSs (X : Cx) (st : List Stmt) (τ : DS) : Prop where
  ex : ∃ t, PSs X st t ∧ ReS X.K t τ

section
variable {K : PySem.W.Frag} {M M' : Mm} {H H' : Hp} {σ' : Env} {σ : St}
theorem EnvR.mono (E : EnvR K M H σ' σ) (S : Sim K M H) (s : Stp M H M' H') : EnvR K M' H' σ' σ := ⟨E.len, fun i d h => by
  obtain ⟨v, e, r⟩ := E.at_ i d h
  exact ⟨v, e, r.mono S s⟩⟩
theorem EnvR.set {d : D} {v : V} (E : EnvR K M H σ' σ) (i : Nat) (r : Rep K M H v d) : EnvR K M H (σ'.set i (some d)) (σ.set i (some v)) := ⟨by rw [List.length_set, List.length_set]; exact E.len, fun j e h => by
  by_cases hj : j = i
  · subst hj
    have hl : j < σ'.length := by
      have q := (List.getElem?_eq_some_iff.mp h).1
      rw [List.length_set] at q
      exact q
    rw [List.getElem?_set_self hl] at h
    cases h
    exact ⟨v, by rw [List.getElem?_set_self (by rw [← E.len]; exact hl)], r⟩
  · rw [List.getElem?_set_ne (Ne.symm hj)] at h ⊢
    exact E.at_ j e h⟩
theorem After.from {R : DK} {Q : VK} (A : After K M H R Q) (s : Stp M H M' H') : After K M' H' R Q := fun d M2 v H2 S2 t r q => A d M2 v H2 S2 (s.trans t) r q
theorem AfterB.from {R : Bool → Mm → Prop} {Q : Bool → Hp → Prop} (A : AfterB K M H R Q) (s : Stp M H M' H') : AfterB K M' H' R Q := fun d M2 H2 S2 t q => A d M2 H2 S2 (s.trans t) q
theorem AfterA.from {n : Nat} {R : List D → Mm → Prop} {Q : List V → Hp → Prop} (A : AfterA K n M H R Q) (s : Stp M H M' H') : AfterA K n M' H' R Q := fun d M2 v H2 hn S2 t r q => A d M2 v H2 hn S2 (s.trans t) r q
theorem AfterO.from {R : Option Int → Mm → Prop} {Q : Option Int → Hp → Prop} (A : AfterO K M H R Q) (s : Stp M H M' H') : AfterO K M' H' R Q := fun d M2 H2 S2 t q => A d M2 H2 S2 (s.trans t) q
theorem AfterS.from {R : Env → Mm → Prop} {Q : St → Hp → Prop} (A : AfterS K M H R Q) (s : Stp M H M' H') : AfterS K M' H' R Q := fun e M2 v H2 E2 S2 t q => A e M2 v H2 E2 S2 (s.trans t) q
theorem AfterD.from {R : DEnds} {N : Ends} (A : AfterD K M H R N) (s : Stp M H M' H') : AfterD K M' H' R N := ⟨A.nx.from s, A.rt.from s, A.bk.from s, A.ct.from s⟩
end
end DL

set_option Elab.async false
set_option linter.all false
set_option maxRecDepth 100000
set_option maxHeartbeats 4000000
/-! The data layer, part b: expressions. -/
namespace DL
open PySem PySem.Spec L2

/-! ### data -/
mutual
def D.py : D → PyData
  | .non => .none
  | .bl b => .bool b
  | .int i => .int i
  | .str x => .str x
  | .tup xs => .tuple (pys xs)
  | .lst xs => .list (pys xs)
  | .fz xs => .list (pys xs)
  | .ptr _ => .dict []
def pys : List D → List PyData
  | [] => []
  | x :: r => x.py :: pys r
end
theorem pys_map : ∀ xs : List D, pys xs = xs.map D.py
  | [] => rfl
  | x :: r => by
    rw [pys, pys_map r]
    rfl
/-- data of at most that depth, without pointers -/
def D.wf : Nat → D → Bool
  | _, .non => true
  | _, .bl _ => true
  | _, .int _ => true
  | _, .str x => PyData.canLay0 (.str x)
  | _, .ptr _ => false
  | 0, _ => false
  | n + 1, .tup xs => xs.all (D.wf n)
  | n + 1, .lst xs => xs.all (D.wf n)
  | n + 1, .fz xs => xs.all (D.wf n)
/-- .. without truth values -/
def D.std : Nat → D → Bool
  | _, .non => true
  | _, .int _ => true
  | _, .str x => PyData.canLay0 (.str x)
  | n + 1, .tup xs => xs.all (D.std n)
  | n + 1, .lst xs => xs.all (D.std n)
  | _, _ => false
theorem wf_of_std : ∀ (n : Nat) (d : D), d.std n = true → d.wf n = true
  | n, .non, _ => by cases n <;> rfl
  | n, .int _, _ => by cases n <;> rfl
  | n, .str x, h => by cases n <;> exact h
  | n, .bl _, h => by cases n <;> cases h
  | n, .ptr _, h => by cases n <;> cases h
  | n, .fz _, h => by cases n <;> cases h
  | 0, .tup _, h => by cases h
  | 0, .lst _, h => by cases h
  | n + 1, .tup xs, h => by
    have h' : xs.all (D.std n) = true := h
    show xs.all (D.wf n) = true
    rw [List.all_eq_true] at h' ⊢
    exact fun x hx => wf_of_std n x (h' x hx)
  | n + 1, .lst xs, h => by
    have h' : xs.all (D.std n) = true := h
    show xs.all (D.wf n) = true
    rw [List.all_eq_true] at h' ⊢
    exact fun x hx => wf_of_std n x (h' x hx)
theorem lay_all : ∀ xs : List D, (∀ x ∈ xs, x.py.canLay0 = true) → PyData.canLayAll0 (pys xs) = true
  | [], _ => by simp [pys, PyData.canLayAll0]
  | x :: r, h => by
    simp only [pys, PyData.canLayAll0, Bool.and_eq_true]
    exact ⟨h x List.mem_cons_self, lay_all r fun y hy => h y (List.mem_cons_of_mem _ hy)⟩
theorem depth_all {n : Nat} : ∀ xs : List D, (∀ x ∈ xs, x.py.depth ≤ n) → PyData.depthAll (pys xs) ≤ n
  | [], _ => by simp [pys, PyData.depthAll]
  | x :: r, h => by
    simp only [pys, PyData.depthAll]
    exact Nat.max_le.mpr ⟨h x List.mem_cons_self, depth_all r fun y hy => h y (List.mem_cons_of_mem _ hy)⟩
theorem wf_py : ∀ (n : Nat) (d : D), d.wf n = true → d.py.canLay0 = true ∧ d.py.depth ≤ n
  | n, .non, _ => ⟨by simp [D.py, PyData.canLay0], by simp [D.py, PyData.depth]⟩
  | n, .bl _, _ => ⟨by simp [D.py, PyData.canLay0], by simp [D.py, PyData.depth]⟩
  | n, .int _, _ => ⟨by simp [D.py, PyData.canLay0], by simp [D.py, PyData.depth]⟩
  | n, .str x, h => ⟨by cases n <;> (simp only [D.py]; exact h), by simp [D.py, PyData.depth]⟩
  | n, .ptr _, h => by cases n <;> cases h
  | 0, .tup _, h => by cases h
  | 0, .lst _, h => by cases h
  | 0, .fz _, h => by cases h
  | n + 1, .tup xs, h => by
    have h' : xs.all (D.wf n) = true := h
    rw [List.all_eq_true] at h'
    simp only [D.py, PyData.canLay0, PyData.depth]
    exact ⟨lay_all xs fun x hx => (wf_py n x (h' x hx)).1, Nat.succ_le_succ (depth_all xs fun x hx => (wf_py n x (h' x hx)).2)⟩
  | n + 1, .lst xs, h => by
    have h' : xs.all (D.wf n) = true := h
    rw [List.all_eq_true] at h'
    simp only [D.py, PyData.canLay0, PyData.depth]
    exact ⟨lay_all xs fun x hx => (wf_py n x (h' x hx)).1, Nat.succ_le_succ (depth_all xs fun x hx => (wf_py n x (h' x hx)).2)⟩
  | n + 1, .fz xs, h => by
    have h' : xs.all (D.wf n) = true := h
    rw [List.all_eq_true] at h'
    simp only [D.py, PyData.canLay0, PyData.depth]
    exact ⟨lay_all xs fun x hx => (wf_py n x (h' x hx)).1, Nat.succ_le_succ (depth_all xs fun x hx => (wf_py n x (h' x hx)).2)⟩
theorem shaped_of {d : D} (h : d.wf 60 = true) : SeqAt.shaped d.py = true := by
  obtain ⟨h1, h2⟩ := wf_py 60 d h
  have h3 : d.py.depth ≤ 64 := by omega
  unfold SeqAt.shaped
  rw [h1, decide_eq_true h3]
  rfl
section
variable {K : PySem.W.Frag} {M : Mm} {H : Hp}
mutual
theorem Rep.dp : ∀ (n : Nat) (d : D) (v : V), Rep K M H v d → d.wf n = true → Dp K H v d.py
  | n, .non, _, h, _ => by cases h; exact .non
  | n, .bl _, _, h, _ => by cases h; exact .bl _
  | n, .int _, _, h, _ => by cases h; exact .int _
  | n, .str _, _, h, _ => by cases h; exact .str _
  | n, .ptr _, _, _, w => by cases n <;> cases w
  | 0, .tup _, _, _, w => by cases w
  | 0, .lst _, _, _, w => by cases w
  | 0, .fz _, _, _, w => by cases w
  | n + 1, .tup ds, _, h, w => by
    cases h with
    | tup q r => exact .tup (SqT.of q) (RepA.dp n ds _ r w)
  | n + 1, .lst ds, _, h, w => by
    cases h with
    | lst q _ r => exact .lst (SqL.of q) (RepA.dp n ds _ r w)
  | n + 1, .fz ds, _, h, w => by
    cases h with
    | fz q r => exact .lst q.sq (RepA.dp n ds _ r w)
theorem RepA.dp : ∀ (n : Nat) (ds : List D) (vs : List V), RepA K M H vs ds → ds.all (D.wf n) = true → DpAll K H vs (pys ds)
  | n, [], _, h, _ => by cases h; exact .nil
  | n, d :: ds, _, h, w => by
    rw [List.all_cons, Bool.and_eq_true] at w
    cases h with
    | cons r q => exact .cons (Rep.dp n d _ r w.1) (RepA.dp n ds _ q w.2)
end
end
/-- == -/
def eqB (d e : D) : Bool := PyData.eqv d.py e.py
def eqBs (ds es : List D) : Bool := PyData.eqvAll (pys ds) (pys es)
theorem eqB_int (i j : Int) : eqB (.int i) (.int j) = (i == j) := by simp [eqB, D.py, PyData.eqv]
theorem eqB_str (i j : Str) : eqB (.str i) (.str j) = (i == j) := by simp [eqB, D.py, PyData.eqv]
theorem eqB_bl (i j : Bool) : eqB (.bl i) (.bl j) = (i == j) := by simp [eqB, D.py, PyData.eqv]
theorem eqB_tup (i j : List D) : eqB (.tup i) (.tup j) = eqBs i j := by simp [eqB, eqBs, D.py, PyData.eqv]
theorem eqB_lst (i j : List D) : eqB (.lst i) (.lst j) = eqBs i j := by simp [eqB, eqBs, D.py, PyData.eqv]
theorem eqB_non_tup (j : List D) : eqB .non (.tup j) = false := by simp [eqB, D.py, PyData.eqv]
theorem eqB_str_non (i : Str) : eqB (.str i) .non = false := by simp [eqB, D.py, PyData.eqv]
theorem eqBs_nil : eqBs [] [] = true := by simp [eqBs, pys, PyData.eqvAll]
theorem eqBs_cons (d e : D) (ds es : List D) : eqBs (d :: ds) (e :: es) = (eqB d e && eqBs ds es) := by simp [eqBs, eqB, pys, PyData.eqvAll]
theorem eqBs_nc (e : D) (es : List D) : eqBs [] (e :: es) = false := by simp [eqBs, pys, PyData.eqvAll]
theorem eqBs_cn (e : D) (es : List D) : eqBs (e :: es) [] = false := by simp [eqBs, pys, PyData.eqvAll]
theorem eqBs_refl : ∀ xs : List D, (∀ x ∈ xs, eqB x x = true) → eqBs xs xs = true
  | [], _ => eqBs_nil
  | x :: r, h => by
    rw [eqBs_cons, h x List.mem_cons_self, eqBs_refl r fun y hy => h y (List.mem_cons_of_mem _ hy)]
    rfl
theorem eqB_refl : ∀ (n : Nat) (d : D), d.wf n = true → eqB d d = true
  | n, .non, _ => by simp [eqB, D.py, PyData.eqv]
  | n, .bl b, _ => by rw [eqB_bl]; exact beq_self_eq_true b
  | n, .int b, _ => by rw [eqB_int]; exact beq_self_eq_true b
  | n, .str b, _ => by rw [eqB_str]; exact beq_self_eq_true b
  | n, .ptr _, h => by cases n <;> cases h
  | 0, .tup _, h => by cases h
  | 0, .lst _, h => by cases h
  | 0, .fz _, h => by cases h
  | n + 1, .tup xs, h => by
    have h' : xs.all (D.wf n) = true := h
    rw [List.all_eq_true] at h'
    rw [eqB_tup]
    exact eqBs_refl xs fun x hx => eqB_refl n x (h' x hx)
  | n + 1, .lst xs, h => by
    have h' : xs.all (D.wf n) = true := h
    rw [List.all_eq_true] at h'
    rw [eqB_lst]
    exact eqBs_refl xs fun x hx => eqB_refl n x (h' x hx)
  | n + 1, .fz xs, h => by
    have h' : xs.all (D.wf n) = true := h
    rw [List.all_eq_true] at h'
    show eqB (.fz xs) (.fz xs) = true
    have e : eqB (.fz xs) (.fz xs) = eqBs xs xs := by simp [eqB, eqBs, D.py, PyData.eqv]
    rw [e]
    exact eqBs_refl xs fun x hx => eqB_refl n x (h' x hx)
theorem eqBs_eq : ∀ xs ys : List D, (∀ x ∈ xs, ∀ y ∈ ys, eqB x y = true → x = y) → eqBs xs ys = true → xs = ys
  | [], [], _, _ => rfl
  | [], _ :: _, _, h => by rw [eqBs_nc] at h; cases h
  | _ :: _, [], _, h => by rw [eqBs_cn] at h; cases h
  | x :: xs, y :: ys, a, h => by
    rw [eqBs_cons, Bool.and_eq_true] at h
    rw [a x List.mem_cons_self y List.mem_cons_self h.1, eqBs_eq xs ys (fun u hu w hw => a u (List.mem_cons_of_mem _ hu) w (List.mem_cons_of_mem _ hw)) h.2]
theorem eqB_eq : ∀ (n m : Nat) (d e : D), d.std n = true → e.std m = true → eqB d e = true → d = e := by
  intro n
  induction n with
  | zero =>
    intro m d e hd he h
    cases d <;> cases e <;> first
      | rfl
      | (cases hd; done)
      | (cases m <;> (cases he; done))
      | (rw [eqB_int] at h; rw [eq_of_beq h])
      | (rw [eqB_str] at h; rw [eq_of_beq h])
      | (exfalso; simp [eqB, D.py, PyData.eqv] at h; done)
  | succ n ih =>
    intro m d e hd he h
    cases d <;> cases e <;> first
      | rfl
      | (cases hd; done)
      | (cases m <;> (cases he; done))
      | (rw [eqB_int] at h; rw [eq_of_beq h])
      | (rw [eqB_str] at h; rw [eq_of_beq h])
      | (exfalso; simp [eqB, D.py, PyData.eqv] at h; done)
      | skip
    · rename_i xs ys
      cases m with
      | zero => cases he
      | succ m =>
        have hd' : xs.all (D.std n) = true := hd
        have he' : ys.all (D.std m) = true := he
        rw [List.all_eq_true] at hd' he'
        rw [eqB_tup] at h
        rw [eqBs_eq xs ys (fun x hx y hy q => ih m x y (hd' x hx) (he' y hy) q) h]
    · rename_i xs ys
      cases m with
      | zero => cases he
      | succ m =>
        have hd' : xs.all (D.std n) = true := hd
        have he' : ys.all (D.std m) = true := he
        rw [List.all_eq_true] at hd' he'
        rw [eqB_lst] at h
        rw [eqBs_eq xs ys (fun x hx y hy q => ih m x y (hd' x hx) (he' y hy) q) h]
theorem eqB_iff {n m : Nat} {d e : D} (hd : d.std n = true) (he : e.std m = true) : eqB d e = true ↔ d = e :=
  ⟨eqB_eq n m d e hd he, fun h => by subst h; exact eqB_refl n d (wf_of_std n d hd)⟩
theorem eqB_ne {n m : Nat} {d e : D} (hd : d.std n = true) (he : e.std m = true) (h : d ≠ e) : eqB d e = false := by
  cases q : eqB d e with
  | false => rfl
  | true => exact absurd ((eqB_iff hd he).mp q) h

/-! ### names, constants -/
def slot : Env → Nat → Option D
  | [], _ => none
  | o :: _, 0 => o
  | _ :: r, n + 1 => slot r n
theorem slot_get : ∀ {σ : Env} {i : Nat} {d : D}, slot σ i = some d → σ[i]? = some (some d)
  | [], _, _, h => by cases h
  | o :: _, 0, _, h => by
    have h' : o = _ := h
    rw [h']
    rfl
  | _ :: r, n + 1, _, h => slot_get (σ := r) (i := n) h
def xV (i : Nat) : DE := fun σ M Q => match slot σ i with
  | some d => Q d M
  | none => False
theorem re_v {K : PySem.W.Frag} {i : Nat} : ReE K (tVar i) (xV i) := fun σ' M σ H R Q E S A h => by
  unfold xV at h
  cases e : slot σ' i with
  | none => rw [e] at h; exact h.elim
  | some d =>
    rw [e] at h
    obtain ⟨v, e1, r⟩ := E.at_ i d (slot_get e)
    exact ⟨v, e1, A d M v H S Stp.refl r h⟩
section
variable {X : Cx}
theorem jv (i : Nat) {x : Str} {pos : Pos} (hN : X.N[i]? = some x := by rfl) (hv : Vis X.env.scope x := by first | exact Or.inl rfl | exact Or.inr (Or.inl rfl) | exact Or.inr (Or.inr rfl)) (hd : (x == ("__debug__" : Str)) = false := by decide)
    (hcd : (x == ("__classdict__" : Str)) = false := by decide) : JE X (.Name x pos) (xV i) := ⟨_, pe_var hN hv hd hcd, re_v⟩
def xC (d : D) : DE := fun _ M Q => Q d M
theorem j_int {i j pos} : JE X (.Constant (.int i) j pos) (xC (.int i)) := ⟨_, pe_int, fun _ M _ H _ _ _ S A h => A _ M _ H S Stp.refl (.int _) h⟩
theorem j_bl {i j pos} : JE X (.Constant (.bool i) j pos) (xC (.bl i)) := ⟨_, pe_bl, fun _ M _ H _ _ _ S A h => A _ M _ H S Stp.refl (.bl _) h⟩
theorem j_non {j pos} : JE X (.Constant .none j pos) (xC .non) := ⟨_, pe_non, fun _ M _ H _ _ _ S A h => A _ M _ H S Stp.refl .non h⟩
theorem j_str {x j pos} : JE X (.Constant (.str x) j pos) (xC (.str x)) := ⟨_, pe_str, fun _ M _ H _ _ _ S A h => A _ M _ H S Stp.refl (.str _) h⟩
theorem j_globI {x : Str} {i : Int} {t : Tok} {pos : Pos} (hg : Gl X x) (hm : X.mg x = some (.int i t)) (hd : (x == ("__debug__" : Str)) = false := by decide) : JE X (.Name x pos) (xC (.int i)) :=
  ⟨_, pe_glob (v := .int i) hg hm ⟨t, rfl⟩ hd, fun _ M _ H _ _ _ S A h => A _ M _ H S Stp.refl (.int _) h⟩
/-- what is never reached -/
def xNo : DE := fun _ _ _ => False
theorem j_no {e : Expr} : JE X e xNo := ⟨fun _ _ _ => False, ⟨fun _ _ _ _ _ _ h => h.elim⟩, fun _ _ _ _ _ _ _ _ _ h => h⟩

/-! ### operators -/
abbrev DR := D → D → Mm → DK → Prop
def ReR (K : PySem.W.Frag) (r : R2) (ρ : DR) : Prop := ∀ d e x y M H R Q, Sim K M H → Rep K M H x d → Rep K M H y e → After K M H R Q → ρ d e M R → r x y H Q
structure JOp (X : Cx) (f : Value → Value → Sem Value) (ρ : DR) : Prop where
  ex : ∃ r, OpR X f r ∧ ReR X.K r ρ
def xOp (ρ : DR) (a b : DE) : DE := fun σ M Q => a σ M fun x M1 => b σ M1 fun y M2 => ρ x y M2 Q
theorem re_op {K : PySem.W.Frag} {ta tb : TE} {a b : DE} {r : R2} {ρ : DR} (ha : ReE K ta a) (hb : ReE K tb b) (hr : ReR K r ρ) : ReE K (tOp r ta tb) (xOp ρ a b) := fun σ' M σ H R Q E S A h =>
  ha σ' M σ H _ _ E S (fun d M1 v H1 S1 s1 r1 q1 => hb σ' M1 σ H1 _ _ (E.mono S s1) S1 (fun e M2 u H2 S2 s2 r2 q2 => hr d e v u M2 H2 R Q S2 (r1.mono S1 s2) r2 (A.from (s1.trans s2)) q2) q1) h
theorem j_op {op : Operator} {ρ : DR} {a b : Expr} {da db : DE} {pos : Pos} (ho : JOp X (binaryOp op) ρ) (ha : JE X a da) (hb : JE X b db) : JE X (.BinOp a op b pos) (xOp ρ da db) := by
  obtain ⟨r, h1, h2⟩ := ho.ex
  obtain ⟨ta, a1, a2⟩ := ha.ex
  obtain ⟨tb, b1, b2⟩ := hb.ex
  exact ⟨_, pe_op h1 a1 b1, re_op a2 b2 h2⟩
theorem j_cmp {op : CmpOp} {ρ : DR} {a b : Expr} {da db : DE} {pos : Pos} (ho : JOp X (compareOp op) ρ) (ha : JE X a da) (hb : JE X b db) (hm : behindInMarks op b = false) : JE X (.Compare a [op] [b] pos) (xOp ρ da db) := by
  obtain ⟨r, h1, h2⟩ := ho.ex
  obtain ⟨ta, a1, a2⟩ := ha.ex
  obtain ⟨tb, b1, b2⟩ := hb.ex
  exact ⟨_, pe_cmpR h1 a1 b1 hm, re_op a2 b2 h2⟩
/-- a test by a truth value -/
def xTst (a : DE) : DT := fun σ M Q => a σ M fun d M1 => match d with
  | .bl k => Q k M1
  | _ => False
theorem re_tst {K : PySem.W.Frag} {t : TE} {a : DE} (ha : ReE K t a) : ReT K (fun σ H Q => t σ H fun x H' => ∃ k, x = .bl k ∧ Q k H') (xTst a) := fun σ' M σ H R Q E S A h =>
  ha σ' M σ H _ _ E S (fun d M1 v H1 S1 s1 r1 q1 => by
    cases r1 with
    | bl k => exact ⟨k, rfl, A k M1 H1 S1 s1 q1⟩
    | _ => exact (show False from q1).elim) h
theorem jt_cmp {op : CmpOp} {ρ : DR} {a b : Expr} {da db : DE} {pos : Pos} (ho : JOp X (compareOp op) ρ) (ha : JE X a da) (hb : JE X b db) (hm : behindInMarks op b = false) : JT X (.Compare a [op] [b] pos) (xTst (xOp ρ da db)) := by
  obtain ⟨r, h1, h2⟩ := ho.ex
  obtain ⟨ta, a1, a2⟩ := ha.ex
  obtain ⟨tb, b1, b2⟩ := hb.ex
  exact ⟨_, pt_cmpR h1 a1 b1 hm, re_tst (re_op a2 b2 h2)⟩
theorem jt_val {e : Expr} {a : DE} (ha : JE X e a) (he : ∀ whole, isTrue e X.env whole = (do let v ← whole; standAt e.pos; holding [v] (truthy v)) := by intro _; rfl) : JT X e (xTst a) := by
  obtain ⟨t, a1, a2⟩ := ha.ex
  exact ⟨_, pt_val a1 he, re_tst a2⟩
def xChain (ρ ρ' : DR) (a b c : DE) : DE := fun σ M Q => a σ M fun x M1 => b σ M1 fun y M2 => ρ x y M2 fun z M3 => match z with
  | .bl k => if k = true then c σ M3 fun w M4 => ρ' y w M4 Q else Q (.bl false) M3
  | _ => False
theorem re_chain {K : PySem.W.Frag} {ta tb tc : TE} {a b c : DE} {r r' : R2} {ρ ρ' : DR} (ha : ReE K ta a) (hb : ReE K tb b) (hc : ReE K tc c) (hr : ReR K r ρ) (hr' : ReR K r' ρ') : ReE K (tChain r r' ta tb tc) (xChain ρ ρ' a b c) := fun σ' M σ H R Q E S A h =>
  ha σ' M σ H _ _ E S (fun d M1 v H1 S1 s1 r1 q1 => hb σ' M1 σ H1 _ _ (E.mono S s1) S1 (fun e M2 u H2 S2 s2 r2 q2 => hr d e v u M2 H2 _ _ S2 (r1.mono S1 s2) r2 (fun z M3 w H3 S3 s3 r3 q3 => by
    cases r3 with
    | bl k =>
      refine ⟨k, rfl, ?_⟩
      have q3' : if k = true then c σ' M3 fun w M4 => ρ' e w M4 R else R (.bl false) M3 := q3
      cases k with
      | true =>
        rw [if_pos rfl] at q3' ⊢
        exact hc σ' M3 σ H3 _ _ (E.mono S (s1.trans (s2.trans s3))) S3 (fun f M4 w H4 S4 s4 r4 q4 => hr' e f u w M4 H4 R Q S4 (r2.mono S2 (s3.trans s4)) r4 (A.from (s1.trans (s2.trans (s3.trans s4)))) q4) q3'
      | false =>
        rw [if_neg Bool.false_ne_true] at q3' ⊢
        exact A _ M3 _ H3 S3 (s1.trans (s2.trans s3)) (.bl false) q3'
    | _ => exact (show False from q3).elim) q2) q1) h
theorem j_chain {op op' : CmpOp} {ρ ρ' : DR} {a b c : Expr} {da db dc : DE} {pos : Pos} (ho : JOp X (compareOp op) ρ) (ho' : JOp X (compareOp op') ρ') (ha : JE X a da) (hb : JE X b db) (hc : JE X c dc)
    (hm : lastMarks [op, op'] [b, c] = false := by with_unfolding_all rfl) : JE X (.Compare a [op, op'] [b, c] pos) (xChain ρ ρ' da db dc) := by
  obtain ⟨r, h1, h2⟩ := ho.ex
  obtain ⟨r', h3, h4⟩ := ho'.ex
  obtain ⟨ta, a1, a2⟩ := ha.ex
  obtain ⟨tb, b1, b2⟩ := hb.ex
  obtain ⟨tc, c1, c2⟩ := hc.ex
  exact ⟨_, pe_chain h1 h3 a1 b1 c1 hm, re_chain a2 b2 c2 h2 h4⟩
theorem jt_chain {op op' : CmpOp} {ρ ρ' : DR} {a b c : Expr} {da db dc : DE} {pos : Pos} (ho : JOp X (compareOp op) ρ) (ho' : JOp X (compareOp op') ρ') (ha : JE X a da) (hb : JE X b db) (hc : JE X c dc)
    (hm : lastMarks [op, op'] [b, c] = false := by with_unfolding_all rfl) : JT X (.Compare a [op, op'] [b, c] pos) (xTst (xChain ρ ρ' da db dc)) := by
  obtain ⟨r, h1, h2⟩ := ho.ex
  obtain ⟨r', h3, h4⟩ := ho'.ex
  obtain ⟨ta, a1, a2⟩ := ha.ex
  obtain ⟨tb, b1, b2⟩ := hb.ex
  obtain ⟨tc, c1, c2⟩ := hc.ex
  exact ⟨_, pt_chain h1 h3 a1 b1 c1 hm, re_tst (re_chain a2 b2 c2 h2 h4)⟩

/-! ### and, or, not, if -/
def xAnd (t u : DT) : DT := fun σ M Q => t σ M fun c M1 => if c = true then u σ M1 Q else Q false M1
def xOr (t u : DT) : DT := fun σ M Q => t σ M fun c M1 => if c = true then Q true M1 else u σ M1 Q
def xNot (t : DT) : DT := fun σ M Q => t σ M fun c M1 => Q (!c) M1
def xIf (t : DT) (a b : DE) : DE := fun σ M Q => t σ M fun c M1 => if c = true then a σ M1 Q else b σ M1 Q
theorem re_and {K : PySem.W.Frag} {t u : TT} {a b : DT} (ha : ReT K t a) (hb : ReT K u b) : ReT K (tAnd t u) (xAnd a b) := fun σ' M σ H R Q E S A h =>
  ha σ' M σ H _ _ E S (fun c M1 H1 S1 s1 q1 => by
    cases c with
    | true => exact hb σ' M1 σ H1 _ _ (E.mono S s1) S1 (A.from s1) q1
    | false => exact A false M1 H1 S1 s1 q1) h
theorem re_or {K : PySem.W.Frag} {t u : TT} {a b : DT} (ha : ReT K t a) (hb : ReT K u b) : ReT K (tOr t u) (xOr a b) := fun σ' M σ H R Q E S A h =>
  ha σ' M σ H _ _ E S (fun c M1 H1 S1 s1 q1 => by
    cases c with
    | false => exact hb σ' M1 σ H1 _ _ (E.mono S s1) S1 (A.from s1) q1
    | true => exact A true M1 H1 S1 s1 q1) h
theorem re_not {K : PySem.W.Frag} {t : TT} {a : DT} (ha : ReT K t a) : ReT K (tNot t) (xNot a) := fun σ' M σ H R Q E S A h =>
  ha σ' M σ H _ _ E S (fun c M1 H1 S1 s1 q1 => A (!c) M1 H1 S1 s1 q1) h
variable {a b : Expr} {rest : List Expr} {pos : Pos} {da db : DT}
theorem jw_and1 (ha : JT X a da) : JW X (.BoolOp .And [a] pos) da := by
  obtain ⟨t, a1, a2⟩ := ha.ex
  exact ⟨_, pw_and1 a1, a2⟩
theorem jw_or1 (ha : JT X a da) : JW X (.BoolOp .Or [a] pos) da := by
  obtain ⟨t, a1, a2⟩ := ha.ex
  exact ⟨_, pw_or1 a1, a2⟩
theorem jw_and (ha : JT X a da) (hb : JW X (.BoolOp .And (b :: rest) pos) db) : JW X (.BoolOp .And (a :: b :: rest) pos) (xAnd da db) := by
  obtain ⟨t, a1, a2⟩ := ha.ex
  obtain ⟨u, b1, b2⟩ := hb.ex
  exact ⟨_, pw_and a1 b1, re_and a2 b2⟩
theorem jw_or (ha : JT X a da) (hb : JW X (.BoolOp .Or (b :: rest) pos) db) : JW X (.BoolOp .Or (a :: b :: rest) pos) (xOr da db) := by
  obtain ⟨t, a1, a2⟩ := ha.ex
  obtain ⟨u, b1, b2⟩ := hb.ex
  exact ⟨_, pw_or a1 b1, re_or a2 b2⟩
theorem jt_bool {e : Expr} (h : JW X e da) : JT X e da := by
  obtain ⟨t, a1, a2⟩ := h.ex
  exact ⟨_, a1.pt, a2⟩
theorem jt_not (ha : JT X a da) : JT X (.UnaryOp .Not a pos) (xNot da) := by
  obtain ⟨t, a1, a2⟩ := ha.ex
  exact ⟨_, pt_not a1, re_not a2⟩
/-- as values -/
def xAndV (a b : DE) : DE := fun σ M Q => a σ M fun d M1 => match d with
  | .bl c => if c = true then b σ M1 Q else Q (.bl false) M1
  | _ => False
def xOrV (a b : DE) : DE := fun σ M Q => a σ M fun d M1 => match d with
  | .bl c => if c = true then Q (.bl true) M1 else b σ M1 Q
  | _ => False
def xNotV (a : DE) : DE := fun σ M Q => a σ M fun d M1 => match d with
  | .bl c => Q (.bl (!c)) M1
  | _ => False
theorem j_one {op} {ea : DE} (h : JE X a ea) : JE X (.BoolOp op [a] pos) ea := by
  obtain ⟨t, a1, a2⟩ := h.ex
  exact ⟨_, pe_one a1, a2⟩
theorem j_and {ea eb : DE} (ha : JE X a ea) (hb : JE X (.BoolOp .And (b :: rest) pos) eb) : JE X (.BoolOp .And (a :: b :: rest) pos) (xAndV ea eb) := by
  obtain ⟨t, a1, a2⟩ := ha.ex
  obtain ⟨u, b1, b2⟩ := hb.ex
  refine ⟨_, pe_and a1 b1, fun σ' M σ H R Q E S A h => ?_⟩
  refine a2 σ' M σ H _ _ E S (fun d M1 v H1 S1 s1 r1 q1 => ?_) h
  cases r1 with
  | bl c =>
    refine ⟨c, rfl, ?_⟩
    cases c with
    | true => exact b2 σ' M1 σ H1 _ _ (E.mono S s1) S1 (A.from s1) q1
    | false => exact A _ M1 _ H1 S1 s1 (.bl false) q1
  | _ => exact (show False from q1).elim
theorem j_or {ea eb : DE} (ha : JE X a ea) (hb : JE X (.BoolOp .Or (b :: rest) pos) eb) : JE X (.BoolOp .Or (a :: b :: rest) pos) (xOrV ea eb) := by
  obtain ⟨t, a1, a2⟩ := ha.ex
  obtain ⟨u, b1, b2⟩ := hb.ex
  refine ⟨_, pe_or a1 b1, fun σ' M σ H R Q E S A h => ?_⟩
  refine a2 σ' M σ H _ _ E S (fun d M1 v H1 S1 s1 r1 q1 => ?_) h
  cases r1 with
  | bl c =>
    refine ⟨c, rfl, ?_⟩
    cases c with
    | false => exact b2 σ' M1 σ H1 _ _ (E.mono S s1) S1 (A.from s1) q1
    | true => exact A _ M1 _ H1 S1 s1 (.bl true) q1
  | _ => exact (show False from q1).elim
theorem j_not {ea : DE} (ha : JE X a ea) : JE X (.UnaryOp .Not a pos) (xNotV ea) := by
  obtain ⟨t, a1, a2⟩ := ha.ex
  refine ⟨_, pe_not a1, fun σ' M σ H R Q E S A h => ?_⟩
  refine a2 σ' M σ H _ _ E S (fun d M1 v H1 S1 s1 r1 q1 => ?_) h
  cases r1 with
  | bl c => exact ⟨c, rfl, A _ M1 _ H1 S1 s1 (.bl (!c)) q1⟩
  | _ => exact (show False from q1).elim
theorem j_if {c : Expr} {t : DT} {ea eb : DE} (hc : JT X c t) (ha : JE X a ea) (hb : JE X b eb) : JE X (.IfExp c a b pos) (xIf t ea eb) := by
  obtain ⟨t, c1, c2⟩ := hc.ex
  obtain ⟨ta, a1, a2⟩ := ha.ex
  obtain ⟨tb, b1, b2⟩ := hb.ex
  refine ⟨_, pe_ifExp c1 a1 b1, fun σ' M σ H R Q E S A h => ?_⟩
  refine c2 σ' M σ H _ _ E S (fun k M1 H1 S1 s1 q1 => ?_) h
  cases k with
  | true => exact a2 σ' M1 σ H1 _ _ (E.mono S s1) S1 (A.from s1) q1
  | false => exact b2 σ' M1 σ H1 _ _ (E.mono S s1) S1 (A.from s1) q1
/-- the truth of any value -/
def truD (d : D) (M : Mm) (Q : Bool → Prop) : Prop := match d with
  | .non => Q false
  | .bl k => Q k
  | .int i => Q (i != 0)
  | .tup xs => Q (!xs.isEmpty)
  | .lst xs => Q (!xs.isEmpty)
  | .fz xs => Q (!xs.isEmpty)
  | .ptr p => match M p with
    | some (.lst xs) => Q (!xs.isEmpty)
    | some (.dK kvs) => Q (!kvs.isEmpty)
    | _ => False
  | .str _ => False
def xTru (a : DE) : DT := fun σ M Q => a σ M fun d M1 => truD d M1 fun k => Q k M1
theorem RepA.emp {K : PySem.W.Frag} {M : Mm} {H : Hp} {vs : List V} {ds : List D} (r : RepA K M H vs ds) : ds.isEmpty = vs.isEmpty := by
  cases r <;> rfl
theorem jt_tru {e : Expr} {ea : DE} (ha : JE X e ea) (he : ∀ whole, isTrue e X.env whole = (do let v ← whole; standAt e.pos; holding [v] (truthy v)) := by intro _; rfl) : JT X e (xTru ea) := by
  obtain ⟨t, a1, a2⟩ := ha.ex
  refine ⟨_, pt_truth a1 he, fun σ' M σ H R Q E S A h => ?_⟩
  refine a2 σ' M σ H _ _ E S (fun d M1 v H1 S1 s1 r1 q1 => ?_) h
  have q1' : truD d M1 fun k => R k M1 := q1
  cases r1 with
  | non => exact ⟨false, rfl, A _ M1 H1 S1 s1 q1'⟩
  | bl k => exact ⟨k, rfl, A _ M1 H1 S1 s1 q1'⟩
  | int i => exact ⟨_, rfl, A _ M1 H1 S1 s1 q1'⟩
  | str i => exact (show False from q1').elim
  | tup q r => exact ⟨_, .inr (.inl ⟨_, SqT.of q, by rw [← r.emp]⟩), A _ M1 H1 S1 s1 q1'⟩
  | lst q n r => exact ⟨_, .inl ⟨_, SqL.of q, by rw [← r.emp]⟩, A _ M1 H1 S1 s1 q1'⟩
  | fz q r => exact ⟨_, .inl ⟨_, q.sq, by rw [← r.emp]⟩, A _ M1 H1 S1 s1 q1'⟩
  | ptr p =>
    unfold truD at q1'
    simp only at q1'
    cases e : M1 p with
    | none => rw [e] at q1'; exact (show False from q1').elim
    | some c =>
      rw [e] at q1'
      cases c with
      | lst ds =>
        obtain ⟨xs, hx, r⟩ := S1 p _ e
        exact ⟨_, .inl ⟨xs, SqL.of hx, by rw [← r.emp]⟩, A _ M1 H1 S1 s1 q1'⟩
      | dK kvs =>
        obtain ⟨ys, hx, k, r⟩ := S1 p _ e
        refine ⟨!kvs.isEmpty, .inr (.inr ⟨ys, hx, ?_⟩), A _ M1 H1 S1 s1 q1'⟩
        have := r.length
        cases kvs <;> cases ys <;> first | rfl | simp at this
      | dT kvs => exact (show False from q1').elim
end
end DL

set_option Elab.async false
set_option linter.all false
set_option maxRecDepth 100000
set_option maxHeartbeats 4000000
/-! The data layer, part c: operators, displays, subscripts, calls. -/
namespace DL
open PySem PySem.Spec L2

section
variable {X : Cx}
/-! ### operators -/
/-- two ints -/
def o2 (k : Int → Int → Mm → DK → Prop) : DR := fun d e M Q => match d, e with
  | .int i, .int j => k i j M Q
  | _, _ => False
theorem re_o2 {K : PySem.W.Frag} {r : R2} {k : Int → Int → Mm → DK → Prop} (h : ∀ i j M H R Q, Sim K M H → After K M H R Q → k i j M R → r (.int i) (.int j) H Q) : ReR K r (o2 k) := fun d e x y M H R Q S rx ry A q => by
  cases rx with
  | int i =>
    cases ry with
    | int j => exact h i j M H R Q S A q
    | _ => exact (show False from q).elim
  | _ => exact (show False from q).elim
theorem jo_sub : JOp X (binaryOp .Sub) (o2 fun i j M Q => Q (.int (i - j)) M) :=
  ⟨_, op_sub, re_o2 fun i j M H R Q S A q => ⟨i, j, rfl, rfl, A _ M _ H S Stp.refl (.int _) q⟩⟩
theorem jo_mul : JOp X (binaryOp .Mult) (o2 fun i j M Q => CMul i j ∧ Q (.int (i * j)) M) :=
  ⟨_, op_mul, re_o2 fun i j M H R Q S A q => ⟨i, j, rfl, rfl, q.1, A _ M _ H S Stp.refl (.int _) q.2⟩⟩
theorem jo_fdiv : JOp X (binaryOp .FloorDiv) (o2 fun i j M Q => CDiv i j ∧ Q (.int (i / j)) M) :=
  ⟨_, op_fdiv, re_o2 fun i j M H R Q S A q => ⟨i, j, rfl, rfl, q.1, A _ M _ H S Stp.refl (.int _) q.2⟩⟩
theorem jo_mod : JOp X (binaryOp .Mod) (o2 fun i j M Q => 0 < j ∧ Q (.int (i % j)) M) :=
  ⟨_, op_mod, re_o2 fun i j M H R Q S A q => ⟨i, j, rfl, rfl, q.1, A _ M _ H S Stp.refl (.int _) q.2⟩⟩
theorem jo_pow : JOp X (binaryOp .Pow) (o2 fun i j M Q => CPow i j ∧ Q (.int (i ^ j.toNat)) M) :=
  ⟨_, op_pow, re_o2 fun i j M H R Q S A q => ⟨i, j, rfl, rfl, q.1, A _ M _ H S Stp.refl (.int _) q.2⟩⟩
theorem jo_le : JOp X (compareOp .LtE) (o2 fun i j M Q => Q (.bl (decide (i ≤ j))) M) :=
  ⟨_, op_le, re_o2 fun i j M H R Q S A q => ⟨i, j, rfl, rfl, A _ M _ H S Stp.refl (.bl _) q⟩⟩
theorem jo_ltI : JOp X (compareOp .Lt) (o2 fun i j M Q => Q (.bl (decide (i < j))) M) :=
  ⟨_, op_lt, re_o2 fun i j M H R Q S A q => ⟨i, j, rfl, rfl, A _ M _ H S Stp.refl (.bl _) q⟩⟩
theorem jo_gt : JOp X (compareOp .Gt) (o2 fun i j M Q => Q (.bl (decide (j < i))) M) :=
  ⟨_, op_gt, re_o2 fun i j M H R Q S A q => ⟨i, j, rfl, rfl, A _ M _ H S Stp.refl (.bl _) q⟩⟩
theorem jo_ge : JOp X (compareOp .GtE) (o2 fun i j M Q => Q (.bl (decide (j ≤ i))) M) :=
  ⟨_, op_ge, re_o2 fun i j M H R Q S A q => ⟨i, j, rfl, rfl, A _ M _ H S Stp.refl (.bl _) q⟩⟩
/-- + of ints, texts, tuples, lists -/
def oAdd : DR := fun d e M Q => match d, e with
  | .int i, .int j => Q (.int (i + j)) M
  | .str a, .str b => a.length + b.length ≤ sizeLine ∧ Q (.str (a ++ b)) M
  | .tup xs, .tup ys => xs.length + ys.length ≤ sizeLine ∧ Q (.tup (xs ++ ys)) M
  | .lst xs, .lst ys => xs.length + ys.length ≤ sizeLine ∧ Q (.lst (xs ++ ys)) M
  | _, _ => False
section
variable {K : PySem.W.Frag} {M : Mm} {H : Hp} {R : DK} {Q : VK}
/-- a new tuple -/
theorem After.tup {xs : List V} {ds : List D} (A : After K M H R Q) (S : Sim K M H) (r : RepA K M H xs ds) (q : R (.tup ds) M) {p : Addr} (n : H p = none) : Q (.ref p) (upd H p (.tup xs)) :=
  A _ M _ _ (S.lay n) (Stp.lay n) (.tup upd_same (r.mono S (Stp.lay n))) q
/-- a new list, as a value -/
theorem After.lst {xs : List V} {ds : List D} (A : After K M H R Q) (S : Sim K M H) (r : RepA K M H xs ds) (q : R (.lst ds) M) {p : Addr} (n : H p = none) : Q (.ref p) (upd H p (.lst xs)) :=
  A _ M _ _ (S.lay n) (Stp.lay n) (.lst upd_same (S.free n) (r.mono S (Stp.lay n))) q
/-- a new list, as a cell -/
theorem After.cell {xs : List V} {ds : List D} (A : After K M H R Q) (S : Sim K M H) (r : RepA K M H xs ds) (q : ∀ p, M p = none → R (.ptr p) (M.upd p (.lst ds))) {p : Addr} (n : H p = none) : Q (.ref p) (upd H p (.lst xs)) :=
  A _ _ _ _ (S.put (c := .lst ds) (.inr n) ⟨xs, upd_same, r.mono S (Stp.put (.inr n))⟩) (Stp.put (.inr n)) (.ptr p) (q p (S.free n))
end
theorem jo_add : JOp X (binaryOp .Add) oAdd := by
  refine ⟨_, op_add.or (op_add_str.or (op_catA.or op_cat)), fun d e x y M H R Q S rx ry A q => ?_⟩
  cases rx with
  | int i =>
    cases ry with
    | int j => exact .inl ⟨i, j, rfl, rfl, A _ M _ H S Stp.refl (.int _) q⟩
    | _ => exact (show False from q).elim
  | str i =>
    cases ry with
    | str j => exact .inr (.inl ⟨i, j, rfl, rfl, q.1, A _ M _ H S Stp.refl (.str _) q.2⟩)
    | _ => exact (show False from q).elim
  | tup h1 r1 =>
    cases ry with
    | tup h2 r2 =>
      rename_i a xs ds b ys es
      obtain ⟨q1, q2⟩ : ds.length + es.length ≤ sizeLine ∧ R (.tup (ds ++ es)) M := q
      refine .inr (.inr (.inl ⟨_, _, _, _, rfl, rfl, SqT.of h1, SqT.of h2, by rw [r1.length, r2.length]; exact q1, fun e => ?_, fun _ e => ?_, fun _ _ p n => A.tup S (r1.append r2) q2 n⟩))
      · subst e
        cases r1
        exact A _ M _ H S Stp.refl (.tup h2 r2) q2
      · subst e
        cases r2
        rw [List.append_nil] at q2
        exact A _ M _ H S Stp.refl (.tup h1 r1) q2
    | _ => exact (show False from q).elim
  | lst h1 n1 r1 =>
    cases ry with
    | lst h2 n2 r2 => exact .inr (.inr (.inr ⟨_, _, _, _, rfl, rfl, h1, h2, by rw [r1.length, r2.length]; exact q.1, fun p n => A.lst S (r1.append r2) q.2 n⟩))
    | _ => exact (show False from q).elim
  | _ => exact (show False from q).elim
/-- ==, != of data -/
def oEq : DR := fun d e M Q => d.wf 60 = true ∧ e.wf 60 = true ∧ Q (.bl (eqB d e)) M
def oNe : DR := fun d e M Q => d.wf 60 = true ∧ e.wf 60 = true ∧ Q (.bl (!eqB d e)) M
theorem jo_eq (hu : X.A.units + 64 < cLine) : JOp X (compareOp .Eq) oEq := ⟨_, op_eqD hu, fun d e x y M H R Q S rx ry A q =>
  ⟨d.py, e.py, rx.dp 60 d x q.1, ry.dp 60 e y q.2.1, shaped_of q.1, shaped_of q.2.1, A _ M _ H S Stp.refl (.bl _) q.2.2⟩⟩
theorem jo_ne (hu : X.A.units + 64 < cLine) : JOp X (compareOp .NotEq) oNe := ⟨_, op_neD hu, fun d e x y M H R Q S rx ry A q =>
  ⟨d.py, e.py, rx.dp 60 d x q.1, ry.dp 60 e y q.2.1, shaped_of q.1, shaped_of q.2.1, A _ M _ H S Stp.refl (.bl _) q.2.2⟩⟩
/-- < of ints, of tuples of ints -/
def oLt : DR := fun d e M Q => match d, e with
  | .int i, .int j => Q (.bl (decide (i < j))) M
  | .tup xs, .tup ys => ∃ ns ms : List Int, xs = ns.map D.int ∧ ys = ms.map D.int ∧ Q (.bl (HT.lexLt ns ms)) M
  | _, _ => False
theorem jo_lt (hu : X.A.units < cLine) : JOp X (compareOp .Lt) oLt := by
  refine ⟨_, op_lt.or (op_ltT hu), fun d e x y M H R Q S rx ry A q => ?_⟩
  cases rx with
  | int i =>
    cases ry with
    | int j => exact .inl ⟨i, j, rfl, rfl, A _ M _ H S Stp.refl (.bl _) q⟩
    | _ => exact (show False from q).elim
  | tup h1 r1 =>
    cases ry with
    | tup h2 r2 =>
      obtain ⟨ns, ms, e1, e2, q⟩ := q
      subst e1 e2
      have f1 := r1.ints
      have f2 := r2.ints
      subst f1 f2
      exact .inr ⟨_, _, ns, ms, rfl, rfl, SqT.of h1, SqT.of h2, A _ M _ H S Stp.refl (.bl _) q⟩
    | _ => exact (show False from q).elim
  | _ => exact (show False from q).elim
/-- in, not in, of data in a list -/
def seqD (d : D) (M : Mm) : Option (List D) := match d with
  | .tup xs => some xs
  | .lst xs => some xs
  | .fz xs => some xs
  | .ptr p => match M p with
    | some (.lst xs) => some xs
    | _ => none
  | _ => none
theorem any_pys (f : PyData → Bool) : ∀ xs : List D, (pys xs).any f = xs.any fun z => f z.py
  | [] => rfl
  | x :: r => by rw [pys, List.any_cons, List.any_cons, any_pys f r]
def inD (d : D) (xs : List D) : Bool := xs.any fun z => eqB z d
/-- the list that is looked at (no tuple) -/
def listD (d : D) (M : Mm) : Option (List D) := match d with
  | .lst xs => some xs
  | .fz xs => some xs
  | .ptr p => match M p with
    | some (.lst xs) => some xs
    | _ => none
  | _ => none
theorem Rep.list {K : PySem.W.Frag} {M : Mm} {H : Hp} {v : V} {d : D} {xs : List D} (r : Rep K M H v d) (S : Sim K M H) (h : listD d M = some xs) : ∃ a vs, v = .ref a ∧ SqL K H a vs ∧ RepA K M H vs xs := by
  cases r with
  | lst q n r => cases h; exact ⟨_, _, rfl, SqL.of q, r⟩
  | fz q r => cases h; exact ⟨_, _, rfl, q.sq, r⟩
  | ptr p =>
    unfold listD at h
    simp only at h
    cases e : M p with
    | none => rw [e] at h; cases h
    | some c =>
      rw [e] at h
      cases c with
      | lst ds =>
        cases h
        obtain ⟨vs, q, r⟩ := S p _ e
        exact ⟨p, vs, rfl, SqL.of q, r⟩
      | dK _ => cases h
      | dT _ => cases h
  | _ => cases h
theorem Rep.seq {K : PySem.W.Frag} {M : Mm} {H : Hp} {v : V} {d : D} {xs : List D} (r : Rep K M H v d) (S : Sim K M H) (h : seqD d M = some xs) : ∃ a vs, v = .ref a ∧ (SqL K H a vs ∨ SqT K H a vs) ∧ RepA K M H vs xs := by
  cases r with
  | tup q r => cases h; exact ⟨_, _, rfl, .inr (SqT.of q), r⟩
  | lst q n r => cases h; exact ⟨_, _, rfl, .inl (SqL.of q), r⟩
  | fz q r => cases h; exact ⟨_, _, rfl, .inl q.sq, r⟩
  | ptr p =>
    obtain ⟨a, vs, e, q, r⟩ := Rep.list (.ptr p) S (show listD (.ptr p) M = some xs from h)
    exact ⟨a, vs, e, .inl q, r⟩
  | _ => cases h
def oIn (neg : Bool) : DR := fun d e M Q => ∃ xs, listD e M = some xs ∧ d.wf 60 = true ∧ xs.all (D.wf 59) = true ∧ Q (.bl (if neg then !inD d xs else inD d xs)) M
theorem wf60 {xs : List D} (h : xs.all (D.wf 59) = true) : (D.lst xs).wf 60 = true := h
theorem jo_in (hu : X.A.units + 65 < cLine) : JOp X (compareOp .In) (oIn false) := ⟨_, op_inD hu, fun d e x y M H R Q S rx ry A q => by
  obtain ⟨xs, h, w1, w2, q⟩ := q
  obtain ⟨a, vs, rfl, hq, r⟩ := ry.list S h
  refine ⟨d.py, pys xs, rx.dp 60 d x w1, .lst hq (r.dp 59 xs vs w2), shaped_of w1, (shaped_of (wf60 w2) : SeqAt.shaped (D.lst xs).py = true), ?_⟩
  rw [any_pys]
  exact A _ M _ H S Stp.refl (.bl _) q⟩
theorem jo_notin (hu : X.A.units + 65 < cLine) : JOp X (compareOp .NotIn) (oIn true) := ⟨_, op_notInD hu, fun d e x y M H R Q S rx ry A q => by
  obtain ⟨xs, h, w1, w2, q⟩ := q
  obtain ⟨a, vs, rfl, hq, r⟩ := ry.list S h
  refine ⟨d.py, pys xs, rx.dp 60 d x w1, .lst hq (r.dp 59 xs vs w2), shaped_of w1, (shaped_of (wf60 w2) : SeqAt.shaped (D.lst xs).py = true), ?_⟩
  rw [any_pys]
  exact A _ M _ H S Stp.refl (.bl _) q⟩
/-- is None, is not None; is True, is False -/
def isNon : D → Bool
  | .non => true
  | _ => false
def oIs : DR := fun d e M Q => match e with
  | .non => Q (.bl (isNon d)) M
  | .bl b => match d with
    | .bl a => Q (.bl (decide (a = b))) M
    | _ => False
  | _ => False
def oIsNot : DR := fun d e M Q => match e with
  | .non => Q (.bl (!isNon d)) M
  | .bl b => match d with
    | .bl a => Q (.bl (!decide (a = b))) M
    | _ => False
  | _ => False
theorem isNon_v {K : PySem.W.Frag} {M : Mm} {H : Hp} {v : V} {d : D} (r : Rep K M H v d) : decide (v = .non) = isNon d := by
  cases r <;> first
    | rfl
    | exact decide_eq_false (fun z => nomatch z)
theorem jo_is : JOp X (compareOp .Is) oIs := ⟨_, op_isN.or op_isBl, fun d e x y M H R Q S rx ry A q => by
  cases ry with
  | non =>
    refine .inl ⟨rfl, ?_⟩
    rw [isNon_v rx]
    exact A _ M _ H S Stp.refl (.bl _) q
  | bl b =>
    cases rx with
    | bl a => exact .inr ⟨a, b, rfl, rfl, A _ M _ H S Stp.refl (.bl _) q⟩
    | _ => exact (show False from q).elim
  | _ => exact (show False from q).elim⟩
theorem jo_isnot : JOp X (compareOp .IsNot) oIsNot := ⟨_, op_notN.or op_notBl, fun d e x y M H R Q S rx ry A q => by
  cases ry with
  | non =>
    refine .inl ⟨rfl, ?_⟩
    rw [isNon_v rx]
    exact A _ M _ H S Stp.refl (.bl _) q
  | bl b =>
    cases rx with
    | bl a => exact .inr ⟨a, b, rfl, rfl, A _ M _ H S Stp.refl (.bl _) q⟩
    | _ => exact (show False from q).elim
  | _ => exact (show False from q).elim⟩
/-- - x -/
def xNeg (a : DE) : DE := fun σ M Q => a σ M fun d M1 => match d with
  | .int i => Q (.int (-i)) M1
  | _ => False
theorem j_neg {a : Expr} {da : DE} {pos : Pos} (ha : JE X a da) : JE X (.UnaryOp .USub a pos) (xNeg da) := by
  obtain ⟨t, a1, a2⟩ := ha.ex
  refine ⟨_, pe_un un_neg a1, fun σ' M σ H R Q E S A h => ?_⟩
  refine a2 σ' M σ H _ _ E S (fun d M1 v H1 S1 s1 r1 q1 => ?_) h
  cases r1 with
  | int i => exact ⟨i, rfl, A _ M1 _ H1 S1 s1 (.int _) q1⟩
  | _ => exact (show False from q1).elim

/-! ### arguments, displays -/
def aNil : DA := fun _ M Q => Q [] M
def aCons (a : DE) (r : DA) : DA := fun σ M Q => a σ M fun d M1 => r σ M1 fun ds M2 => Q (d :: ds) M2
theorem ja_nil : JA X [] aNil := ⟨_, pa_nil, fun _ M _ H _ _ _ S A h => A [] M [] H rfl S Stp.refl .nil h⟩
theorem ja_cons {e : Expr} {es : List Expr} {a : DE} {r : DA} (ha : JE X e a) (hr : JA X es r) (hs : starEach (e :: es) X.env = (false, eval e X.env) :: starEach es X.env := by rfl) : JA X (e :: es) (aCons a r) := by
  obtain ⟨t, a1, a2⟩ := ha.ex
  obtain ⟨u, b1, b2⟩ := hr.ex
  refine ⟨_, pa_cons a1 b1 hs, fun σ' M σ H R Q E S A h => ?_⟩
  refine a2 σ' M σ H _ _ E S (fun d M1 v H1 S1 s1 r1 q1 => ?_) h
  exact b2 σ' M1 σ H1 _ _ (E.mono S s1) S1 (fun ds M2 vs H2 hn S2 s2 r2 q2 => A (d :: ds) M2 _ H2 (congrArg Nat.succ hn) S2 (s1.trans s2) (.cons (r1.mono S1 s2) r2) q2) q1
def xTup (a : DA) : DE := fun σ M Q => a σ M fun ds M1 => ds.length ≤ sizeLine ∧ Q (.tup ds) M1
def xLst (a : DA) : DE := fun σ M Q => a σ M fun ds M1 => ds.length ≤ sizeLine ∧ Q (.lst ds) M1
/-- a list that will be changed -/
def xLstM (a : DA) : DE := fun σ M Q => a σ M fun ds M1 => ds.length ≤ sizeLine ∧ ∀ p, M1 p = none → Q (.ptr p) (M1.upd p (.lst ds))
theorem j_tup {es : List Expr} {a : DA} {k : Nat} {pos : Pos} (ha : JA X es a) : JE X (.Tuple es k pos) (xTup a) := by
  obtain ⟨t, a1, a2⟩ := ha.ex
  refine ⟨_, pe_tup a1, fun σ' M σ H R Q E S A h => ?_⟩
  exact a2 σ' M σ H _ _ E S (fun ds M1 vs H1 _ S1 s1 r1 q1 => ⟨by rw [r1.length]; exact q1.1, fun p n => (A.from s1).tup S1 r1 q1.2 n⟩) h
theorem j_lst {es : List Expr} {a : DA} {pos : Pos} (ha : JA X es a) : JE X (.List es pos) (xLst a) := by
  obtain ⟨t, a1, a2⟩ := ha.ex
  refine ⟨_, pe_lst a1, fun σ' M σ H R Q E S A h => ?_⟩
  exact a2 σ' M σ H _ _ E S (fun ds M1 vs H1 _ S1 s1 r1 q1 => ⟨by rw [r1.length]; exact q1.1, fun p n => (A.from s1).lst S1 r1 q1.2 n⟩) h
theorem j_lstM {es : List Expr} {a : DA} {pos : Pos} (ha : JA X es a) : JE X (.List es pos) (xLstM a) := by
  obtain ⟨t, a1, a2⟩ := ha.ex
  refine ⟨_, pe_lst a1, fun σ' M σ H R Q E S A h => ?_⟩
  exact a2 σ' M σ H _ _ E S (fun ds M1 vs H1 _ S1 s1 r1 q1 => ⟨by rw [r1.length]; exact q1.1, fun p n => (A.from s1).cell S1 r1 q1.2 n⟩) h

/-! ### items, slices -/
/-- an item: of a tuple, a list, a text (one sign) -/
def oIx : DR := fun d e M Q => match e with
  | .int i => match d with
    | .str z => ∃ c, z.length ≤ sizeLine ∧ atI z.cps.toList i = some c ∧ Q (.str ⟨#[c]⟩) M
    | _ => ∃ xs x, seqD d M = some xs ∧ atI xs i = some x ∧ Q x M
  | _ => False
theorem atI_rep {K : PySem.W.Frag} {M : Mm} {H : Hp} {vs : List V} {ds : List D} (r : RepA K M H vs ds) {i : Int} {d : D} (h : atI ds i = some d) : ∃ v, atI vs i = some v ∧ Rep K M H v d := by
  unfold atI at h ⊢
  rw [r.length]
  cases e : ixN ds.length i with
  | none => rw [e] at h; cases h
  | some j =>
    rw [e] at h
    exact r.get h
theorem j_ix {a b : Expr} {da db : DE} {pos : Pos} (ha : JE X a da) (hb : JE X b db) (hs : PlainIx b := by exact fun _ _ => rfl) : JE X (.Subscript a b pos) (xOp oIx da db) := by
  obtain ⟨ta, a1, a2⟩ := ha.ex
  obtain ⟨tb, b1, b2⟩ := hb.ex
  refine ⟨_, pe_ix ix_seq a1 b1 hs, re_op a2 b2 fun d e x y M H R Q S rx ry A q => ?_⟩
  cases ry with
  | int i =>
    by_cases hz : ∃ z, d = .str z
    · obtain ⟨z, rfl⟩ := hz
      cases rx
      obtain ⟨c, h1, h2, q⟩ := q
      exact .inr (.inr ⟨z, i, c, rfl, rfl, h1, h2, A _ M _ H S Stp.refl (.str _) q⟩)
    · have q' : ∃ xs x, seqD d M = some xs ∧ atI xs i = some x ∧ R x M := by
        cases d <;> first
          | exact q
          | exact absurd ⟨_, rfl⟩ hz
      obtain ⟨xs, z, h1, h2, q⟩ := q'
      obtain ⟨a, vs, rfl, hq, r⟩ := rx.seq S h1
      obtain ⟨w, h3, r3⟩ := atI_rep r h2
      rcases hq with hq | hq
      · exact .inl ⟨a, vs, i, w, rfl, rfl, hq, h3, A _ M _ H S Stp.refl r3 q⟩
      · exact .inr (.inl ⟨a, vs, i, w, rfl, rfl, hq, h3, A _ M _ H S Stp.refl r3 q⟩)
  | _ => exact (show False from q).elim
def cutD {α : Type} (xs : List α) (lo hi : Option Int) : List α := (xs.drop (HT.sIx xs.length 0 lo)).take (HT.sIx xs.length xs.length hi - HT.sIx xs.length 0 lo)
theorem RepA.cut {K : PySem.W.Frag} {M : Mm} {H : Hp} {vs : List V} {ds : List D} (r : RepA K M H vs ds) (lo hi : Option Int) : RepA K M H (cutV vs lo hi) (cutD ds lo hi) := by
  unfold cutV cutD
  rw [r.length]
  exact (r.drop _).take _
theorem cut_all {α : Type} {xs : List α} {lo hi : Option Int} (h : HT.sIx xs.length 0 lo = 0 ∧ HT.sIx xs.length xs.length hi = xs.length) : cutD xs lo hi = xs := by
  unfold cutD
  rw [h.1, h.2, List.drop_zero, Nat.sub_zero, List.take_length]
def oNone : DO := fun _ M Q => Q none M
def oPart (a : DE) : DO := fun σ M Q => a σ M fun d M1 => match d with
  | .int i => Q (some i) M1
  | _ => False
theorem jp_none : JO X none oNone := ⟨_, po_none, fun _ M _ H _ _ _ S A h => A none M H S Stp.refl h⟩
theorem jp_some {e : Expr} {a : DE} (ha : JE X e a) : JO X (some e) (oPart a) := by
  obtain ⟨t, a1, a2⟩ := ha.ex
  refine ⟨_, po_some a1, fun σ' M σ H R Q E S A h => ?_⟩
  refine a2 σ' M σ H _ _ E S (fun d M1 v H1 S1 s1 r1 q1 => ?_) h
  cases r1 with
  | int i => exact ⟨i, rfl, A _ M1 H1 S1 s1 q1⟩
  | _ => exact (show False from q1).elim
/-- a part of a tuple, of a list (a new one) -/
def xSl (a : DE) (lo hi : DO) : DE := fun σ M Q => a σ M fun d M1 => lo σ M1 fun l M2 => hi σ M2 fun h M3 => match d with
  | .tup xs => Q (.tup (cutD xs l h)) M3
  | _ => ∃ xs, listD d M3 = some xs ∧ Q (.lst (cutD xs l h)) M3
theorem j_sl {e : Expr} {lo hi : Option Expr} {a : DE} {ol oh : DO} {p2 pos : Pos} (ha : JE X e a) (hl : JO X lo ol) (hh : JO X hi oh) : JE X (.Subscript e (.Slice lo hi none p2) pos) (xSl a ol oh) := by
  obtain ⟨t, a1, a2⟩ := ha.ex
  obtain ⟨tl, l1, l2⟩ := hl.ex
  obtain ⟨th, h1, h2⟩ := hh.ex
  refine ⟨_, pe_slice (sl_list.or sl_tupA) a1 l1 h1, fun σ' M σ H R Q E S A h => ?_⟩
  refine a2 σ' M σ H _ _ E S (fun d M1 v H1 S1 s1 r1 q1 => ?_) h
  refine l2 σ' M1 σ H1 _ _ (E.mono S s1) S1 (fun l M2 H2 S2 s2 q2 => ?_) q1
  refine h2 σ' M2 σ H2 _ _ (E.mono S (s1.trans s2)) S2 (fun u M3 H3 S3 s3 q3 => ?_) q2
  have A3 := A.from (s1.trans (s2.trans s3))
  have r3 := r1.mono S1 (s2.trans s3)
  by_cases hz : ∃ z, d = .tup z
  · obtain ⟨z, rfl⟩ := hz
    cases r3 with
    | tup q r =>
      refine .inr ⟨_, _, rfl, SqT.of q, fun w => ?_, fun w p n => A3.tup S3 (r.cut l u) q3 n⟩
      rw [r.length] at w
      have q3' : R (.tup (cutD z l u)) M3 := q3
      rw [cut_all w] at q3'
      exact A3 _ M3 _ H3 S3 Stp.refl (.tup q r) q3'
  · have q' : ∃ xs, listD d M3 = some xs ∧ R (.lst (cutD xs l u)) M3 := by
      cases d <;> first
        | exact q3
        | exact absurd ⟨_, rfl⟩ hz
    obtain ⟨xs, h1, q⟩ := q'
    obtain ⟨a, vs, rfl, hq, r⟩ := r3.list S3 h1
    exact .inl ⟨a, vs, rfl, hq, fun p n => A3.lst S3 (r.cut l u) q n⟩

/-! ### calls -/
abbrev DSp := List D → Mm → DK → Prop
def xCall (p : DSp) (a : DA) : DE := fun σ M Q => a σ M fun ds M1 => p ds M1 Q
/-- a data promise as a def's promise -/
def lift (K : PySem.W.Frag) (n : Nat) (p : DSp) : Sp := fun vs H Q _ => ∃ ds M R, RepA K M H vs ds ∧ Sim K M H ∧ After K M H R Q ∧ ds.length = n ∧ p ds M R
theorem lift_len {K : PySem.W.Frag} {n : Nat} {p : DSp} : ∀ vs H Q E, lift K n p vs H Q E → vs.length = n := fun vs H Q E h => by
  obtain ⟨ds, M, R, r, _, _, e, _⟩ := h
  rw [r.length, e]
section
variable {k : Nat} {f : Addr} {fd : FuncData} {ps : List Str} {sp : Sp} {x : Str} {p pos : Pos} {e : Expr} {es : List Expr} {n : Nat} {q : DSp}
theorem j_call {a : DA} (F : FnOk X.prog X.w X.K X.mg X.base CX0 k f fd ps (lift X.K n q)) (hr : Room k X.A) (hg : Gl X x) (hm : X.mg x = some (.ref f)) (hk : PySem.W.keepIn X.K (.ref f) = true) (hb : Binds X.K fd ps [])
    (ha : JA X (e :: es) a) (hn : (e :: es).length = n := by rfl) (hdb : (x == ("__debug__" : Str)) = false := by decide) (he : starEach (e :: es) X.env = (false, eval e X.env) :: starEach es X.env := by rfl) (hpl : (backTo pos (starEach es X.env)).any (·.1) = false := by rfl) :
    JE X (.Call (.Name x p) (e :: es) [] pos) (xCall q a) := by
  obtain ⟨t, a1, a2⟩ := ha.ex
  refine ⟨_, pe_call F hr hg hm hk hb .nil pass0 a1 hdb he hpl, fun σ' M σ H R Q E S A h => ?_⟩
  refine a2 σ' M σ H _ _ E S (fun ds M1 vs H1 hd S1 s1 r1 q1 => ?_) h
  exact ⟨ds, M1, R, by rw [List.append_nil]; exact r1, S1, A.from s1, hd.trans hn, q1⟩
end
end
end DL

set_option Elab.async false
set_option linter.all false
set_option maxRecDepth 100000
set_option maxHeartbeats 4000000
/-! The data layer, part d: built-in calls, methods, order. -/
namespace DL
open PySem PySem.Spec L2

section
variable {X : Cx}
abbrev DC := List D → Mm → DK → Prop
def ReC (K : PySem.W.Frag) (r : List V → Hp → VK → Prop) (ρ : DC) : Prop := ∀ ds vs M H R Q, Sim K M H → RepA K M H vs ds → After K M H R Q → ρ ds M R → r vs H Q
structure JC (X : Cx) (f : Value) (ρ : DC) : Prop where
  ex : ∃ r, CallR X f r ∧ ReC X.K r ρ
def xB (ρ : DC) (a : DA) : DE := fun σ M Q => a σ M fun ds M1 => ρ ds M1 Q
theorem re_B {K : PySem.W.Frag} {n : Nat} {r : List V → Hp → VK → Prop} {ρ : DC} {t : TA} {a : DA} (hr : ReC K r ρ) (ha : ReA K n t a) : ReE K (tCB r t) (xB ρ a) := fun σ' M σ H R Q E S A h =>
  ha σ' M σ H _ _ E S (fun ds M1 vs H1 _ S1 s1 r1 q1 => hr ds vs M1 H1 R Q S1 r1 (A.from s1) q1) h
section
variable {id T : String} {ρ : DC} {x : Str} {p pos : Pos} {e : Expr} {es : List Expr} {a : DA}
theorem j_callB (hc : JC X (.builtin id) ρ) (hg : Gl X x) (hm : X.mg x = none) (hv : bootBuiltins x = some (.builtin id)) (ha : JA X (e :: es) a) (hn : x ≠ "__name__" := by decide) (hdb : (x == ("__debug__" : Str)) = false := by decide)
    (he : starEach (e :: es) X.env = (false, eval e X.env) :: starEach es X.env := by rfl) (hpl : (backTo pos (starEach es X.env)).any (·.1) = false := by rfl) : JE X (.Call (.Name x p) (e :: es) [] pos) (xB ρ a) := by
  obtain ⟨r, h1, h2⟩ := hc.ex
  obtain ⟨t, a1, a2⟩ := ha.ex
  exact ⟨_, pe_callB h1 hg hm hv a1 hn hdb he hpl, re_B h2 a2⟩
theorem j_callT (hc : JC X (.type T) ρ) (hg : Gl X x) (hm : X.mg x = none) (hv : bootBuiltins x = some (.type T)) (ha : JA X (e :: es) a) (hn : x ≠ "__name__" := by decide) (hdb : (x == ("__debug__" : Str)) = false := by decide)
    (he : starEach (e :: es) X.env = (false, eval e X.env) :: starEach es X.env := by rfl) (hpl : (backTo pos (starEach es X.env)).any (·.1) = false := by rfl) : JE X (.Call (.Name x p) (e :: es) [] pos) (xB ρ a) := by
  obtain ⟨r, h1, h2⟩ := hc.ex
  obtain ⟨t, a1, a2⟩ := ha.ex
  exact ⟨_, pe_callTy h1 hg hm hv a1 hn hdb he hpl, re_B h2 a2⟩
end
/-- one argument -/
def c1 (k : D → Mm → DK → Prop) : DC := fun ds M Q => match ds with
  | [d] => k d M Q
  | _ => False
def c2 (k : D → D → Mm → DK → Prop) : DC := fun ds M Q => match ds with
  | [d, e] => k d e M Q
  | _ => False
theorem re_c1 {K : PySem.W.Frag} {r : List V → Hp → VK → Prop} {k : D → Mm → DK → Prop} (h : ∀ d v M H R Q, Sim K M H → Rep K M H v d → After K M H R Q → k d M R → r [v] H Q) : ReC K r (c1 k) := fun ds vs M H R Q S rs A q => by
  match ds, rs, q with
  | [d], .cons r .nil, q => exact h d _ M H R Q S r A q
theorem re_c2 {K : PySem.W.Frag} {r : List V → Hp → VK → Prop} {k : D → D → Mm → DK → Prop} (h : ∀ d e v u M H R Q, Sim K M H → Rep K M H v d → Rep K M H u e → After K M H R Q → k d e M R → r [v, u] H Q) : ReC K r (c2 k) := fun ds vs M H R Q S rs A q => by
  match ds, rs, q with
  | [d, e], .cons r (.cons r2 .nil), q => exact h d e _ _ M H R Q S r r2 A q
/-- len -/
def lenD (d : D) (M : Mm) : Option Int := match d with
  | .str z => if z.length ≤ sizeLine then some z.length else none
  | _ => (seqD d M).map fun xs => (xs.length : Int)
def kLen : D → Mm → DK → Prop := fun d M Q => ∃ n, lenD d M = some n ∧ Q (.int n) M
theorem jc_len : JC X (.builtin "len") (c1 kLen) := ⟨_, call_len_seq.or call_len_str, re_c1 fun d v M H R Q S r A q => by
  obtain ⟨n, h, q⟩ := q
  by_cases hz : ∃ z, d = .str z
  · obtain ⟨z, rfl⟩ := hz
    cases r
    unfold lenD at h
    simp only at h
    by_cases hl : z.length ≤ sizeLine
    · rw [if_pos hl] at h
      cases h
      exact .inr ⟨z, rfl, hl, A _ M _ H S Stp.refl (.int _) q⟩
    · rw [if_neg hl] at h
      cases h
  · have h' : (seqD d M).map (fun xs => (xs.length : Int)) = some n := by
      cases d <;> first
        | exact h
        | exact absurd ⟨_, rfl⟩ hz
    obtain ⟨xs, e, rfl⟩ := Option.map_eq_some_iff.mp h'
    obtain ⟨a, vs, rfl, hq, ra⟩ := r.seq S e
    refine .inl ⟨a, vs, rfl, hq, ?_⟩
    rw [ra.length]
    exact A _ M _ H S Stp.refl (.int _) q⟩
def kInt : D → Mm → DK → Prop := fun d M Q => match d with
  | .int i => Q (.int i) M
  | _ => False
theorem jc_int : JC X (.type "int") (c1 kInt) := ⟨_, call_int1, re_c1 fun d v M H R Q S r A q => by
  cases r with
  | int i => exact .inl ⟨i, rfl, A _ M _ H S Stp.refl (.int _) q⟩
  | _ => exact (show False from q).elim⟩
theorem abs_nat (i : Int) : (if i < 0 then -i else i) = (i.natAbs : Int) := by
  split <;> omega
def kAbs : D → Mm → DK → Prop := fun d M Q => match d with
  | .int i => Q (.int i.natAbs) M
  | _ => False
theorem jc_abs : JC X (.builtin "abs") (c1 kAbs) := ⟨_, call_abs, re_c1 fun d v M H R Q S r A q => by
  cases r with
  | int i =>
    refine ⟨i, rfl, ?_⟩
    rw [abs_nat]
    exact A _ M _ H S Stp.refl (.int _) q
  | _ => exact (show False from q).elim⟩
def kMax2 : D → D → Mm → DK → Prop := fun d e M Q => match d, e with
  | .int i, .int j => Q (.int (max i j)) M
  | _, _ => False
def kMin2 : D → D → Mm → DK → Prop := fun d e M Q => match d, e with
  | .int i, .int j => Q (.int (min i j)) M
  | _, _ => False
theorem jc_max2 (hc : X.calm = true) : JC X (.builtin "max") (c2 kMax2) := ⟨_, call_max2 hc, re_c2 fun d e v u M H R Q S r r2 A q => by
  cases r with
  | int i =>
    cases r2 with
    | int j =>
      refine ⟨i, j, rfl, ?_⟩
      have e : (if j > i then j else i) = max i j := by split <;> omega
      rw [e]
      exact A _ M _ H S Stp.refl (.int _) q
    | _ => exact (show False from q).elim
  | _ => exact (show False from q).elim⟩
theorem jc_min2 (hc : X.calm = true) : JC X (.builtin "min") (c2 kMin2) := ⟨_, call_min2 hc, re_c2 fun d e v u M H R Q S r r2 A q => by
  cases r with
  | int i =>
    cases r2 with
    | int j =>
      refine ⟨i, j, rfl, ?_⟩
      have e : (if j < i then j else i) = min i j := by split <;> omega
      rw [e]
      exact A _ M _ H S Stp.refl (.int _) q
    | _ => exact (show False from q).elim
  | _ => exact (show False from q).elim⟩
/-- sum of a list of ints -/
def kSum : D → Mm → DK → Prop := fun d M Q => ∃ ns : List Int, listD d M = some (ns.map D.int) ∧ Q (.int ns.sum) M
theorem jc_sum (hc : X.calm = true) : JC X (.builtin "sum") (c1 kSum) := ⟨_, cr_sum hc, re_c1 fun d v M H R Q S r A q => by
  obtain ⟨ns, h, q⟩ := q
  obtain ⟨a, vs, rfl, hq, ra⟩ := r.list S h
  have e := ra.ints
  subst e
  exact ⟨a, ns, rfl, hq, A _ M _ H S Stp.refl (.int _) q⟩⟩
/-- tuple(x) of a list, a tuple -/
def kTuple : D → Mm → DK → Prop := fun d M Q => ∃ xs, seqD d M = some xs ∧ Q (.tup xs) M
theorem jc_tuple : JC X (.type "tuple") (c1 kTuple) := ⟨_, call_tuple_of, re_c1 fun d v M H R Q S r A q => by
  obtain ⟨xs, h, q⟩ := q
  by_cases hz : ∃ z, d = .tup z
  · obtain ⟨z, rfl⟩ := hz
    cases h
    cases r with
    | tup hq ra => exact ⟨_, _, rfl, .inr ⟨SqT.of hq, A _ M _ H S Stp.refl (.tup hq ra) q⟩⟩
  · have h' : listD d M = some xs := by
      cases d <;> first
        | exact h
        | exact absurd ⟨_, rfl⟩ hz
    obtain ⟨a, vs, rfl, hq, ra⟩ := r.list S h'
    exact ⟨a, vs, rfl, .inl ⟨hq, fun l n => A.tup S ra q n⟩⟩⟩
/-- list(x): a new list, as a value; as a cell -/
def kList : D → Mm → DK → Prop := fun d M Q => ∃ xs, seqD d M = some xs ∧ Q (.lst xs) M
def kListM : D → Mm → DK → Prop := fun d M Q => ∃ xs, seqD d M = some xs ∧ ∀ p, M p = none → Q (.ptr p) (M.upd p (.lst xs))
theorem jc_list : JC X (.type "list") (c1 kList) := ⟨_, call_list_of, re_c1 fun d v M H R Q S r A q => by
  obtain ⟨xs, h, q⟩ := q
  obtain ⟨a, vs, rfl, hq, ra⟩ := r.seq S h
  exact ⟨a, vs, rfl, hq, fun l n => A.lst S ra q n⟩⟩
theorem jc_listM : JC X (.type "list") (c1 kListM) := ⟨_, call_list_of, re_c1 fun d v M H R Q S r A q => by
  obtain ⟨xs, h, q⟩ := q
  obtain ⟨a, vs, rfl, hq, ra⟩ := r.seq S h
  exact ⟨a, vs, rfl, hq, fun l n => A.cell S ra q n⟩⟩
/-- isinstance(x, T), T a built-in type -/
def tyD (d : D) (M : Mm) : Option String := match d with
  | .non => some "NoneType"
  | .bl _ => some "bool"
  | .int _ => some "int"
  | .str _ => some "str"
  | .tup _ => some "tuple"
  | .lst _ => some "list"
  | .fz _ => none
  | .ptr p => match M p with
    | some (.lst _) => some "list"
    | _ => none

/-! ### order -/
open PySem.W in
/-- < of data that can be compared -/
def oLtD : DR := fun d e M Q => d.wf 60 = true ∧ e.wf 60 = true ∧ PySem.W.alike d.py e.py = true ∧ d.py ≠ .none ∧ Q (.bl (PySem.W.dataLt d.py e.py)) M
theorem jo_ltD (hu : X.A.units + 64 < cLine) : JOp X (compareOp .Lt) oLtD := by
  refine ⟨fun x y H Q => ∃ d e, Dp X.K H x d ∧ Dp X.K H y e ∧ d.depth ≤ 60 ∧ PySem.W.alike d e = true ∧ d ≠ .none ∧ Q (.bl (PySem.W.dataLt d e)) H, ?_, fun d e x y M H R Q S rx ry A q => ?_⟩
  · intro pins s σ H x y v u Q I rx ry h
    obtain ⟨d, e, hd, he, dp, al, ne, q⟩ := h
    obtain ⟨as, r1⟩ := Dp.reads I d x v hd rx
    obtain ⟨bs, r2⟩ := Dp.reads I e y u he ry
    exact PySem.W.lt_data r1 r2 al ne (by omega) ⟨.bl _, H, I, rfl, q⟩
  · obtain ⟨w1, w2, al, ne, q⟩ := q
    exact ⟨d.py, e.py, rx.dp 60 d x w1, ry.dp 60 e y w2, (wf_py 60 d w1).2, al, ne, A _ M _ H S Stp.refl (.bl _) q⟩
/-- as Python sorts -/
def sortD (ds : List D) : List D := ds.mergeSort (PySem.W.dataLe false D.py)
def kSorted : D → Mm → DK → Prop := fun d M Q => ∃ xs, listD d M = some xs ∧ (∀ x ∈ xs, x.wf 60 = true) ∧ PySem.W.AllAlike (xs.map D.py) ∧ PySem.W.Sortable (xs.map D.py) ∧ Q (.lst (sortD xs)) M
def EachD (K : PySem.W.Frag) (M : Mm) (H : Hp) (u : Value) (d : D) : Prop := ∃ v, RelV v u ∧ Rep K M H v d
theorem each_of {K : PySem.W.Frag} {M : Mm} {H : Hp} : ∀ {ds : List D} {vs : List V} {us : List Value}, RepA K M H vs ds → Vals vs us → PySem.W.EachIs (EachD K M H) us ds
  | [], _, _, r, q => by
    cases r
    cases q
    exact .nil
  | d :: ds, _, _, r, q => by
    cases r with
    | cons r1 r2 =>
      cases q with
      | cons q1 q2 => exact .cons ⟨_, q1, r1⟩ (each_of r2 q2)
theorem of_each {K : PySem.W.Frag} {M : Mm} {H : Hp} : ∀ {ds : List D} {us : List Value}, PySem.W.EachIs (EachD K M H) us ds → ∃ vs, RepA K M H vs ds ∧ Vals vs us
  | _, _, .nil => ⟨[], .nil, .nil⟩
  | _, _, .cons ⟨v, q, r⟩ t => by
    obtain ⟨vs, r2, q2⟩ := of_each t
    exact ⟨v :: vs, .cons r r2, .cons q q2⟩
theorem depth60 {d : D} {u : Nat} (w : d.wf 60 = true) (hu : u + 64 < cLine) : u + 2 + d.py.depth < cLine := by
  have := (wf_py 60 d w).2
  omega
theorem jc_sorted (hu : X.A.units + 64 < cLine) : JC X (.builtin "sorted") (c1 kSorted) := by
  refine ⟨fun vs H Q => ∃ a xs M ds, vs = [.ref a] ∧ SqL X.K H a xs ∧ Sim X.K M H ∧ RepA X.K M H xs ds ∧ (∀ x ∈ ds, x.wf 60 = true) ∧ PySem.W.AllAlike (ds.map D.py) ∧ PySem.W.Sortable (ds.map D.py) ∧ ∀ p ys, H p = none → RepA X.K M H ys (sortD ds) → Q (.ref p) (upd H p (.lst ys)), ?_, re_c1 fun d v M H R Q S r A q => ?_⟩
  · intro pins s σ H vs us Q I rv h
    obtain ⟨a, xs, M, ds, rfl, hq, S, ra, w, al, so, q⟩ := h
    obtain ⟨u, rfl, ru⟩ := vals1 rv
    cases ru
    obtain ⟨its, r2, pl, hz⟩ := I.list hq
    have e0 : PySem.W.EachIs (EachD X.K M H) its ds := each_of ra r2
    have er : PySem.W.EachIs (fun v b => ∃ as, Reads s.heap v (D.py b) as) its ds := by
      have key : ∀ (us : List Value) (es : List D), (∀ x ∈ es, x.wf 60 = true) → PySem.W.EachIs (EachD X.K M H) us es → PySem.W.EachIs (fun v b => ∃ as, Reads s.heap v (D.py b) as) us es := by
        intro us es
        induction es generalizing us with
        | nil =>
          intro _ h
          cases h
          exact .nil
        | cons e es ih =>
          intro w h
          cases h with
          | cons h1 h2 =>
            obtain ⟨v, rv, rp⟩ := h1
            exact .cons (Dp.reads I _ _ _ (rp.dp 60 e v (w e List.mem_cons_self)) rv) (ih _ (fun x hx => w x (List.mem_cons_of_mem _ hx)) h2)
      exact key its ds w e0
    have hl : ds.length ≤ sizeLine := by rw [← ra.length]; exact hz
    refine PySem.W.sorted_data pl.isList e0 er al so hl (fun b hb => depth60 (w b hb) hu) fun out ho eo => ?_
    obtain ⟨ys, ry, vy⟩ := of_each eo
    obtain ⟨n, hat⟩ := PyProof.Rows.sortedAll_at s.heap its (List.toArray out)
    have nw : H (s.heap.objs.size + 1) = none := I.hok.fresh (Nat.le_succ _)
    have I2 := I.laid (h' := PyProof.Rows.sortedAll s.heap its (List.toArray out)) (t' := s.toks) (a := s.heap.objs.size + 1) (o := .lst ys) (fun b o e => PyProof.Rows.sortedAll_old e) (Nat.le_succ _)
      ⟨by rw [vy.length, ho]; exact hl, out, n, vy, hat⟩
    exact ⟨.ref _, _, I2, rfl, q _ ys nw ry⟩
  · obtain ⟨xs, h, w, al, so, q⟩ := q
    obtain ⟨a, vs, rfl, hq, ra⟩ := r.list S h
    exact ⟨a, vs, M, xs, rfl, hq, S, ra, w, al, so, fun p ys n ry => A.lst S ry q n⟩

/-! ### methods -/
abbrev DM := D → List D → Mm → DK → Prop
def xM (ρ : DM) (o : DE) (a : DA) : DE := fun σ M Q => o σ M fun d M1 => a σ M1 fun ds M2 => ρ d ds M2 Q
end
end DL

set_option Elab.async false
set_option linter.all false
set_option maxRecDepth 100000
set_option maxHeartbeats 4000000
/-! The data layer, part e: statements, loops, comprehensions. -/
namespace DL
open PySem PySem.Spec L2

/-! ### the canonical reading -/
def cE (K : PySem.W.Frag) (τ : DE) : TE := fun σ H Q => ∃ σ' M R, EnvR K M H σ' σ ∧ Sim K M H ∧ After K M H R Q ∧ τ σ' M R
def cT (K : PySem.W.Frag) (τ : DT) : TT := fun σ H Q => ∃ σ' M R, EnvR K M H σ' σ ∧ Sim K M H ∧ AfterB K M H R Q ∧ τ σ' M R
theorem re_cE {K : PySem.W.Frag} {τ : DE} : ReE K (cE K τ) τ := fun σ' M σ H R Q E S A h => ⟨σ', M, R, E, S, A, h⟩
theorem re_cT {K : PySem.W.Frag} {τ : DT} : ReT K (cT K τ) τ := fun σ' M σ H R Q E S A h => ⟨σ', M, R, E, S, A, h⟩
theorem JE.can {X : Cx} {e : Expr} {τ : DE} (h : JE X e τ) : PE X e (cE X.K τ) := by
  obtain ⟨t, a1, a2⟩ := h.ex
  exact ⟨fun pins s σ H Q I ⟨σ', M, R, E, S, A, q⟩ => a1.run pins s σ H Q I (a2 σ' M σ H R Q E S A q)⟩
theorem JT.can {X : Cx} {e : Expr} {τ : DT} (h : JT X e τ) : PT X e (cT X.K τ) := by
  obtain ⟨t, a1, a2⟩ := h.ex
  exact ⟨fun pins s σ H Q I ⟨σ', M, R, E, S, A, q⟩ => a1.run pins s σ H Q I (a2 σ' M σ H R Q E S A q)⟩

/-! ### targets -/
def put : Env → Nat → D → Env
  | [], _, _ => []
  | _ :: r, 0, d => some d :: r
  | o :: r, n + 1, d => o :: put r n d
theorem put_set : ∀ (σ : Env) (i : Nat) (d : D), put σ i d = σ.set i (some d)
  | [], _, _ => rfl
  | _ :: _, 0, _ => rfl
  | o :: r, n + 1, d => by
    show o :: put r n d = o :: r.set n (some d)
    rw [put_set r n d]
def yN (i : Nat) : DG := fun d σ M N => N (put σ i d) M
theorem re_N {K : PySem.W.Frag} {i : Nat} : ReG K (gName i) (yN i) := fun d v σ' M σ H R Q E S r A h => by
  have h' : R (put σ' i d) M := h
  rw [put_set] at h'
  exact A _ M _ H (E.set i r) S Stp.refl h'
section
variable {X : Cx}
theorem jg_N {i : Nat} {x : Str} {pos : Pos} (hN : X.N.Nodup) (hi : X.N[i]? = some x) (hx : Loc X.env.scope x) (hf : X.fn x = true ∨ X.env.scope.names.lookup x = some .local := by first | exact .inl rfl | exact .inr rfl | assumption) : JG X (.Name x pos) (yN i) :=
  ⟨_, pg_name hN hi hx hf, re_N⟩
/-- (a, b, ..) = a tuple of just that many items -/
def yNil : DGs := fun ds σ M N => match ds with
  | [] => N σ M
  | _ => False
def yCons (g : DG) (r : DGs) : DGs := fun ds σ M N => match ds with
  | d :: t => g d σ M fun σ1 M1 => r t σ1 M1 N
  | [] => False
def yTup (n : Nat) (g : DGs) : DG := fun d σ M N => match d with
  | .tup ds => ds.length = n ∧ g ds σ M N
  | _ => False
theorem re_gNil {K : PySem.W.Frag} : ReGs K gNil yNil := fun ds vs σ' M σ H R Q E S r A h => by
  cases r with
  | nil => exact ⟨rfl, A _ M _ H E S Stp.refl h⟩
  | cons _ _ => exact (show False from h).elim
theorem re_gCons {K : PySem.W.Frag} {t : TG} {u : TGs} {g : DG} {r : DGs} (h1 : ReG K t g) (h2 : ReGs K u r) : ReGs K (gCons t u) (yCons g r) := fun ds vs σ' M σ H R Q E S rp A h => by
  cases rp with
  | nil => exact (show False from h).elim
  | cons r1 r2 => exact ⟨_, _, rfl, h1 _ _ σ' M σ H _ _ E S r1 (fun σ2' M2 σ2 H2 E2 S2 s2 q2 => h2 _ _ σ2' M2 σ2 H2 R Q E2 S2 (r2.mono S s2) (A.from s2) q2) h⟩
theorem re_gTup {K : PySem.W.Frag} {n : Nat} {u : TGs} {r : DGs} (h2 : ReGs K u r) : ReG K (gTup K n u) (yTup n r) := fun d v σ' M σ H R Q E S rp A h => by
  cases rp with
  | tup q ra => exact ⟨_, _, rfl, SqT.of q, by rw [ra.length]; exact h.1, h2 _ _ σ' M σ H R Q E S ra A h.2⟩
  | _ => exact (show False from h).elim
theorem jgs_nil : JGs X [] yNil := ⟨_, pgs_nil, re_gNil⟩
theorem jgs_cons {e : Expr} {es : List Expr} {g : DG} {r : DGs} (h1 : JG X e g) (h2 : JGs X es r) (hs : (assignEach (e :: es) X.env).map (·.2) = assign e X.env :: (assignEach es X.env).map (·.2) := by rfl) : JGs X (e :: es) (yCons g r) := by
  obtain ⟨t, a1, a2⟩ := h1.ex
  obtain ⟨u, b1, b2⟩ := h2.ex
  exact ⟨_, pgs_cons a1 b1 hs, re_gCons a2 b2⟩
theorem jg_tup {es : List Expr} {k : Nat} {r : DGs} {n : Nat} {pos : Pos} (hc : X.calm = true) (h : JGs X es r) (hn : (assignEach es X.env).length = n := by rfl) (hst : (assignEach es X.env).findIdx? (·.1) = none := by rfl) : JG X (.Tuple es k pos) (yTup n r) := by
  obtain ⟨u, b1, b2⟩ := h.ex
  exact ⟨_, pg_tup hc b1 hn hst, re_gTup b2⟩

/-! ### statements -/
def zSkip : DS := fun R σ M => R.nx σ M
def zSeq (a b : DS) : DS := fun R σ M => a { R with nx := b R } σ M
theorem re_seq {K : PySem.W.Frag} {t u : TS} {a b : DS} (h1 : ReS K t a) (h2 : ReS K u b) : ReS K (tSeq t u) (zSeq a b) := fun R N σ' M σ H E S A h =>
  h1 { R with nx := b R } _ σ' M σ H E S ⟨fun σ2' M2 σ2 H2 E2 S2 s2 q2 => h2 R N σ2' M2 σ2 H2 E2 S2 (A.from s2) q2, A.rt, A.bk, A.ct⟩ h
theorem js_nil : JSs X [] zSkip := ⟨_, pss_nil, fun R N σ' M σ H E S A h => A.nx _ M _ H E S Stp.refl h⟩
theorem js_cons {st : Stmt} {rest : List Stmt} {a b : DS} (h1 : JS X st a) (h2 : JSs X rest b) : JSs X (st :: rest) (zSeq a b) := by
  obtain ⟨t, a1, a2⟩ := h1.ex
  obtain ⟨u, b1, b2⟩ := h2.ex
  exact ⟨_, pss_cons a1 b1, re_seq a2 b2⟩
theorem js_one {st : Stmt} {a : DS} (h1 : JS X st a) : JSs X [st] a := by
  obtain ⟨t, a1, a2⟩ := h1.ex
  exact ⟨_, pss_one a1, a2⟩
theorem js_pass {pos : Pos} : JS X (.Pass pos) zSkip := ⟨_, ps_pass, fun R N σ' M σ H E S A h => A.nx _ M _ H E S Stp.refl h⟩
def zBreak : DS := fun R σ M => R.bk σ M
def zCont : DS := fun R σ M => R.ct σ M
theorem js_break {pos : Pos} : JS X (.Break pos) zBreak := ⟨_, ps_break, fun R N σ' M σ H E S A h => A.bk _ M _ H E S Stp.refl h⟩
theorem js_cont {pos : Pos} : JS X (.Continue pos) zCont := ⟨_, ps_continue, fun R N σ' M σ H E S A h => A.ct _ M _ H E S Stp.refl h⟩
def zNo : DS := fun _ _ _ => False
theorem js_no {st : Stmt} : JS X st zNo := ⟨_, ps_never, fun _ _ _ _ _ _ _ _ _ h => h⟩
def zExpr (a : DE) : DS := fun R σ M => a σ M fun _ M1 => R.nx σ M1
theorem js_expr {e : Expr} {a : DE} {pos : Pos} (ha : JE X e a) (hs : swapsWith e none pos.line X.env = pure false := by rfl) : JS X (.Expr e pos) (zExpr a) := by
  obtain ⟨t, a1, a2⟩ := ha.ex
  refine ⟨_, ps_expr a1 hs, fun R N σ' M σ H E S A h => ?_⟩
  exact a2 σ' M σ H _ _ E S (fun d M1 v H1 S1 s1 r1 q1 => A.nx _ M1 _ H1 (E.mono S s1) S1 s1 q1) h
def zRet (a : DE) : DS := fun R σ M => a σ M R.rt
theorem js_ret {e : Expr} {a : DE} {pos : Pos} (ha : JE X e a) : JS X (.Return (some e) pos) (zRet a) := by
  obtain ⟨t, a1, a2⟩ := ha.ex
  exact ⟨_, ps_ret a1, fun R N σ' M σ H E S A h => a2 σ' M σ H _ _ E S A.rt h⟩
def zSet (i : Nat) (a : DE) : DS := fun R σ M => a σ M fun d M1 => R.nx (put σ i d) M1
theorem re_set {K : PySem.W.Frag} {i : Nat} {t : TE} {a : DE} (ha : ReE K t a) : ReS K (tAsg t (gName i)) (zSet i a) := fun R N σ' M σ H E S A h =>
  ha σ' M σ H _ _ E S (fun d M1 v H1 S1 s1 r1 q1 => re_N d v σ' M1 σ H1 R.nx N.nx (E.mono S s1) S1 r1 (A.nx.from s1) q1) h
theorem js_set {i : Nat} {x : Str} {e : Expr} {a : DE} {pos pos' : Pos} (hN : X.N.Nodup) (hi : X.N[i]? = some x) (hx : Loc X.env.scope x) (ha : JE X e a) (hs : swapsWith e (some (.Name x pos')) pos.line X.env = pure false := by rfl) (hf : X.fn x = true ∨ X.env.scope.names.lookup x = some .local := by first | exact .inl rfl | exact .inr rfl | assumption) :
    JS X (.Assign [.Name x pos'] e pos) (zSet i a) := by
  obtain ⟨t, a1, a2⟩ := ha.ex
  exact ⟨_, ps_set hN hi hx a1 hs hf, re_set a2⟩
/-- any other target -/
def zAsg (a : DE) (g : DG) : DS := fun R σ M => a σ M fun d M1 => g d σ M1 R.nx
theorem js_asg {tg e : Expr} {a : DE} {g : DG} {pos : Pos} (ha : JE X e a) (hg : JG X tg g) (hs : swapsWithSole [tg] e pos.line X.env = pure false := by rfl) (hw : swappedStores [tg] e X.env = pure none := by rfl)
    (h1 : (assignEach [tg] X.env).map (·.2) = [assign tg X.env] := by rfl) : JS X (.Assign [tg] e pos) (zAsg a g) := by
  obtain ⟨t, a1, a2⟩ := ha.ex
  obtain ⟨u, b1, b2⟩ := hg.ex
  refine ⟨_, ps_asg a1 b1 hs hw h1, fun R N σ' M σ H E S A h => ?_⟩
  exact a2 σ' M σ H _ _ E S (fun d M1 v H1 S1 s1 r1 q1 => b2 d v σ' M1 σ H1 R.nx N.nx (E.mono S s1) S1 r1 (A.nx.from s1) q1) h
/-- a, b = x, y -/
def zPar (i j : Nat) (a : DA) : DS := fun R σ M => a σ M fun ds M1 => match ds with
  | [d, e] => R.nx (put (put σ i d) j e) M1
  | _ => False
theorem js_par {i j : Nat} {x y : Str} {e1 e2 : Expr} {a : DA} {px py pt pos : Pos} {kt k2 pt2} (hc : X.calm = true) (hN : X.N.Nodup) (hi : X.N[i]? = some x) (hj : X.N[j]? = some y) (hij : i ≠ j)
    (hx : X.env.scope.names.lookup x = some .local) (hy : X.env.scope.names.lookup y = some .local) (ha : JA X [e1, e2] a)
    (hw : swappedStores [.Tuple [.Name x px, .Name y py] kt pt] (.Tuple [e1, e2] k2 pt2) X.env = pure (some [x, y]))
    (hs : swapsWithSole [.Tuple [.Name x px, .Name y py] kt pt] (.Tuple [e1, e2] k2 pt2) pos.line X.env = pure false := by rfl) :
    JS X (.Assign [.Tuple [.Name x px, .Name y py] kt pt] (.Tuple [e1, e2] k2 pt2) pos) (zPar i j a) := by
  obtain ⟨t, a1, a2⟩ := ha.ex
  refine ⟨_, ps_par hc hN hi hj hij hx hy a1 hw hs, fun R N σ' M σ H E S A h => ?_⟩
  refine a2 σ' M σ H _ _ E S (fun ds M1 vs H1 _ S1 s1 r1 q1 => ?_) h
  match ds, vs, r1, q1 with
  | [d, e], _, .cons ra (.cons rb .nil), q1 =>
    refine ⟨_, _, rfl, ?_⟩
    have q1' : R.nx (put (put σ' i d) j e) M1 := q1
    rw [put_set, put_set] at q1'
    exact A.nx _ M1 _ H1 (((E.mono S s1).set i ra).set j rb) S1 s1 q1'
def zPar3 (i j l : Nat) (a : DA) : DS := fun R σ M => a σ M fun ds M1 => match ds with
  | [d, e, f] => R.nx (put (put (put σ i d) j e) l f) M1
  | _ => False
def zIf (c : DT) (a b : DS) : DS := fun R σ M => c σ M fun k M1 => if k = true then a R σ M1 else b R σ M1
theorem js_if {c : Expr} {a b : List Stmt} {tc : DT} {ta tb : DS} {pos : Pos} (hc : JT X c tc) (ha : JSs X a ta) (hb : JSs X b tb) : JS X (.If c a b pos) (zIf tc ta tb) := by
  obtain ⟨t, c1, c2⟩ := hc.ex
  obtain ⟨u, a1, a2⟩ := ha.ex
  obtain ⟨w, b1, b2⟩ := hb.ex
  refine ⟨_, ps_if c1 a1 b1, fun R N σ' M σ H E S A h => ?_⟩
  refine c2 σ' M σ H _ _ E S (fun k M1 H1 S1 s1 q1 => ?_) h
  cases k with
  | true => exact a2 R N σ' M1 σ H1 (E.mono S s1) S1 (A.from s1) q1
  | false => exact b2 R N σ' M1 σ H1 (E.mono S s1) S1 (A.from s1) q1
/-- o[i] = e of a list -/
def ySub (o i : DE) : DG := fun d σ M N => o σ M fun q M1 => i σ M1 fun k M2 => match q, k with
  | .ptr p, .int n => ∃ ds j, M2 p = some (.lst ds) ∧ ixN ds.length n = some j ∧ N σ (M2.upd p (.lst (ds.set j d)))
  | _, _ => False
theorem jg_sub {o i : Expr} {eo ei : DE} {pos : Pos} (ho : JE X o eo) (hi : JE X i ei)
    (ha : ∀ v, assign (.Subscript o i pos) X.env v = (do
      let ov ← holding [v] (eval o X.env)
      let iv ← holding [v, ov] (eval i X.env)
      standAt pos
      holding [v, ov, iv] (setItem ov iv v)
      release [v, ov, iv] []) := by intro _; rfl) : JG X (.Subscript o i pos) (ySub eo ei) := by
  obtain ⟨t, a1, a2⟩ := ho.ex
  obtain ⟨u, b1, b2⟩ := hi.ex
  refine ⟨_, pg_sub a1 b1 set_list ha, fun d v σ' M σ H R Q E S rp A h => ?_⟩
  refine a2 σ' M σ H _ _ E S (fun q M1 w H1 S1 s1 r1 q1 => ?_) h
  refine b2 σ' M1 σ H1 _ _ (E.mono S s1) S1 (fun k M2 x H2 S2 s2 r2 q2 => ?_) q1
  cases r1 with
  | ptr p =>
    cases r2 with
    | int n =>
      obtain ⟨ds, j, e1, e2, q3⟩ := q2
      obtain ⟨xs, hx, ra⟩ := S2 p _ e1
      have hne : M2 p ≠ none := by rw [e1]; exact fun z => nomatch z
      refine ⟨p, xs, n, j, rfl, rfl, hx, by rw [ra.length]; exact e2, ?_⟩
      have rd := (rp.mono S s1).mono S1 s2
      have st := Stp.put (c := .lst (ds.set j d)) (o := .lst (xs.set j v)) (H := H2) (.inl hne)
      refine A _ _ _ _ ((E.mono S (s1.trans s2)).mono S2 st) (S2.put (.inl hne) ⟨_, upd_same, (ra.set j rd).mono S2 st⟩) (s1.trans (s2.trans st)) q3
    | _ => exact (show False from q2).elim
  | _ => cases r2 <;> exact (show False from q2).elim

/-! ### what is walked -/
abbrev DIK := List D → (Mm → Prop) → Mm → Prop
abbrev DI := Env → Mm → DIK → Prop
structure ItOk (K : PySem.W.Frag) (items : List D) (ok : Mm → Prop) (M : Mm) (H : Hp) (J : It) : Prop where
  stop : ∀ M2 H2, Sim K M2 H2 → Stp M H M2 H2 → ok M2 → J.stop items.length H2
  go : ∀ M2 H2, Sim K M2 H2 → Stp M H M2 H2 → ok M2 → ∀ (i : Nat) (x : D), items[i]? = some x → J.go i H2 ∧ ∀ v H3, J.yld i H2 v H3 → Sim K M2 H3 ∧ Stp M2 H2 M2 H3 ∧ Rep K M2 H3 v x
def ReI (K : PySem.W.Frag) (wi : TI) (ι : DI) : Prop := ∀ σ' M σ H R Q, EnvR K M H σ' σ → Sim K M H → (∀ items ok M' J H', Sim K M' H' → Stp M H M' H' → ItOk K items ok M' H' J → R items ok M' → Q J H') → ι σ' M R → wi σ H Q
structure JI (X : Cx) (tg iter : Expr) (ι : DI) : Prop where
  ex : ∃ wi, PI X tg iter wi ∧ ReI X.K wi ι
def cI (K : PySem.W.Frag) (ι : DI) : TI := fun σ H Q => ∃ σ' M R, EnvR K M H σ' σ ∧ Sim K M H ∧ (∀ items ok M' J H', Sim K M' H' → Stp M H M' H' → ItOk K items ok M' H' J → R items ok M' → Q J H') ∧ ι σ' M R
theorem re_cI {K : PySem.W.Frag} {ι : DI} : ReI K (cI K ι) ι := fun σ' M σ H R Q E S A h => ⟨σ', M, R, E, S, A, h⟩
theorem JI.can {tg iter : Expr} {ι : DI} (h : JI X tg iter ι) : PI X tg iter (cI X.K ι) := by
  obtain ⟨t, a1, a2⟩ := h.ex
  exact ⟨fun pins s σ H Q I ⟨σ', M, R, E, S, A, q⟩ => a1.run pins s σ H Q I (a2 σ' M σ H R Q E S A q)⟩
/-- a list, a tuple -/
def iSeq (a : DE) : DI := fun σ M R => a σ M fun d M1 => match d with
  | .tup xs => R xs (fun _ => True) M1
  | .lst xs => R xs (fun _ => True) M1
  | .fz xs => R xs (fun _ => True) M1
  | .ptr p => ∃ xs, M1 p = some (.lst xs) ∧ R xs (fun M2 => M2 p = some (.lst xs)) M1
  | _ => False
def iEither (K : PySem.W.Frag) (tl : TE) : TI := fun σ H R => tl σ H fun x H1 => ∃ a, x = .ref a ∧ (((∃ xs, SqL K H1 a xs) ∧ R (Itl K a) H1) ∨ ((∃ xs, SqT K H1 a xs) ∧ R (Itt K a) H1))
theorem pi_either {tg l : Expr} {tl : TE} (hl : PE X l tl) : PI X tg l (iEither X.K tl) := by
  constructor
  intro pins s σ H R I h
  refine thn (hl.run pins s σ H _ I h) ?_
  rintro v s1 ⟨x, H1, I1, r1, a, e, q1⟩
  subst e
  cases r1
  have grow : ∀ (o : Obj) (b : Addr) (u : Obj), s1.heap.get? b = some u → (s1.heap.push o).get? b = some u := fun o b u z => Heap.get?_push_of_some o z
  have fresh : ∀ b ∈ [s1.heap.objs.size], FpOk X pins H1 b := by
    intro b hb
    rw [List.mem_singleton] at hb
    rw [hb]
    exact I1.fpOk (Nat.le_refl _) (I1.hok.fresh (Nat.le_refl _))
  rcases q1 with ⟨⟨xs, hq⟩, q⟩ | ⟨⟨xs, hq⟩, q⟩
  · obtain ⟨its, _, pl, _⟩ := I1.list hq
    exact wpAny_pyIter_list pl.isList ⟨_, [s1.heap.objs.size], _, Itl X.K a, H1, rfl, I1.kept (t' := s1.toks) (grow _), turn_list a _, ⟨_, Heap.get?_push_size _ rfl, rfl, rfl⟩, fresh, q⟩
  · obtain ⟨its, _, pt, _⟩ := I1.tuple hq
    exact wpAny_pyIter_tuple pt ⟨_, [s1.heap.objs.size], _, Itt X.K a, H1, rfl, I1.kept (t' := s1.toks) (grow _), turn_tuple a _, ⟨_, Heap.get?_push_size _ rfl, rfl, rfl⟩, fresh, q⟩
theorem itl_ok {K : PySem.W.Frag} {items : List D} {ok : Mm → Prop} {M : Mm} {H : Hp} {a : Addr} (h : ∀ M2 H2, Sim K M2 H2 → Stp M H M2 H2 → ok M2 → ∃ xs, SqL K H2 a xs ∧ RepA K M2 H2 xs items ∧ ∀ ys, SqL K H2 a ys → ys = xs) : ItOk K items ok M H (Itl K a) := by
  refine ⟨fun M2 H2 S2 s2 o2 => ?_, fun M2 H2 S2 s2 o2 i x hx => ?_⟩
  · obtain ⟨xs, hq, r, _⟩ := h M2 H2 S2 s2 o2
    exact ⟨xs, hq, Nat.le_of_eq r.length⟩
  · obtain ⟨xs, hq, r, hu⟩ := h M2 H2 S2 s2 o2
    obtain ⟨v, hv, rv⟩ := r.get hx
    refine ⟨⟨xs, v, hq, hv⟩, fun w H3 y => ?_⟩
    obtain ⟨e, f⟩ := y
    subst e
    have e2 := f xs hq
    rw [hv] at e2
    cases e2
    exact ⟨S2, Stp.refl, rv⟩
theorem ji_seq {tg e : Expr} {a : DE} (ha : JE X e a) : JI X tg e (iSeq a) := by
  obtain ⟨t, a1, a2⟩ := ha.ex
  refine ⟨_, pi_either a1, fun σ' M σ H R Q E S A h => ?_⟩
  refine a2 σ' M σ H _ _ E S (fun d M1 v H1 S1 s1 r1 q1 => ?_) h
  cases r1 with
  | tup hq r =>
    rename_i p xs ds
    refine ⟨p, rfl, .inr ⟨⟨xs, SqT.of hq⟩, A ds _ M1 _ H1 S1 s1 ⟨fun M2 H2 S2 s2 _ => ?_, fun M2 H2 S2 s2 _ i x hx => ?_⟩ q1⟩⟩
    · exact ⟨xs, SqT.of (s2 _ _ hq (S1.tupN hq)).1, Nat.le_of_eq r.length⟩
    · have r2 := r.mono S1 s2
      have hq2 := SqT.of (K := X.K) (s2 _ _ hq (S1.tupN hq)).1
      obtain ⟨v, hv, rv⟩ := r2.get hx
      refine ⟨⟨xs, v, hq2, hv⟩, fun w H3 y => ?_⟩
      obtain ⟨e, f⟩ := y
      subst e
      have e2 := f xs hq2
      rw [hv] at e2
      cases e2
      exact ⟨S2, Stp.refl, rv⟩
  | lst hq n r =>
    rename_i p xs ds
    refine ⟨p, rfl, .inl ⟨⟨xs, SqL.of hq⟩, A ds _ M1 _ H1 S1 s1 ⟨fun M2 H2 S2 s2 _ => ?_, fun M2 H2 S2 s2 _ i x hx => ?_⟩ q1⟩⟩
    · exact ⟨xs, SqL.of (s2 _ _ hq n).1, Nat.le_of_eq r.length⟩
    · have r2 := r.mono S1 s2
      have hq2 := SqL.of (K := X.K) (s2 _ _ hq n).1
      obtain ⟨v, hv, rv⟩ := r2.get hx
      refine ⟨⟨xs, v, hq2, hv⟩, fun w H3 y => ?_⟩
      obtain ⟨e, f⟩ := y
      subst e
      have e2 := f xs hq2
      rw [hv] at e2
      cases e2
      exact ⟨S2, Stp.refl, rv⟩
  | fz hq r =>
    rename_i p xs ds
    refine ⟨p, rfl, .inl ⟨⟨xs, hq.sq⟩, A ds _ M1 _ H1 S1 s1 ⟨fun M2 H2 S2 s2 _ => ?_, fun M2 H2 S2 s2 _ i x hx => ?_⟩ q1⟩⟩
    · exact ⟨xs, (s2.lst hq).sq, Nat.le_of_eq r.length⟩
    · have r2 := r.mono S1 s2
      have hq2 := (s2.lst hq).sq
      obtain ⟨v, hv, rv⟩ := r2.get hx
      refine ⟨⟨xs, v, hq2, hv⟩, fun w H3 y => ?_⟩
      obtain ⟨e, f⟩ := y
      subst e
      have e2 := f xs hq2
      rw [hv] at e2
      cases e2
      exact ⟨S2, Stp.refl, rv⟩
  | ptr p =>
    obtain ⟨ds, e, q⟩ : ∃ xs, M1 p = some (.lst xs) ∧ R xs (fun M2 => M2 p = some (.lst xs)) M1 := q1
    obtain ⟨xs, hx, r⟩ := S1 p _ e
    refine ⟨p, rfl, .inl ⟨⟨xs, SqL.of hx⟩, A ds _ M1 _ H1 S1 s1 ⟨fun M2 H2 S2 s2 o2 => ?_, fun M2 H2 S2 s2 o2 i x hx => ?_⟩ q⟩⟩
    · obtain ⟨ys, hy, r2⟩ := S2 p _ o2
      exact ⟨ys, SqL.of hy, Nat.le_of_eq r2.length⟩
    · obtain ⟨ys, hy, r2⟩ := S2 p _ o2
      obtain ⟨v, hv, rv⟩ := r2.get hx
      refine ⟨⟨ys, v, SqL.of hy, hv⟩, fun w H3 y => ?_⟩
      obtain ⟨e, f⟩ := y
      subst e
      have e2 := f ys (SqL.of hy)
      rw [hv] at e2
      cases e2
      exact ⟨S2, Stp.refl, rv⟩
  | _ => exact (show False from q1).elim
/-- range(n), range(a, b) -/
def rangeD (lo hi : Int) : List D := (List.range (hi - lo).toNat).map fun k => D.int (lo + (k : Nat))
def rngOk (i : Int) : Prop := -(2 ^ 62) ≤ i ∧ i < 2 ^ 62
def iRange1 (a : DA) : DI := fun σ M R => a σ M fun ds M1 => match ds with
  | [.int n] => rngOk n ∧ R (rangeD 0 n) (fun _ => True) M1
  | _ => False
def iRange2 (a : DA) : DI := fun σ M R => a σ M fun ds M1 => match ds with
  | [.int i, .int j] => rngOk i ∧ rngOk j ∧ R (rangeD i j) (fun _ => True) M1
  | _ => False
theorem range_ok {K : PySem.W.Frag} {M : Mm} {H : Hp} (lo hi : Int) : ItOk K (rangeD lo hi) (fun _ => True) M H (Itr lo (hi - lo).toNat) := by
  unfold rangeD
  refine ⟨fun M2 H2 S2 s2 _ => ?_, fun M2 H2 S2 s2 _ i x hx => ?_⟩
  · rw [List.length_map, List.length_range]
    exact Nat.le_refl _
  · rw [List.getElem?_map] at hx
    obtain ⟨k, hk, rfl⟩ := Option.map_eq_some_iff.mp hx
    have hk' := List.getElem?_eq_some_iff.mp hk
    obtain ⟨h1, h2⟩ := hk'
    rw [List.length_range] at h1
    rw [List.getElem_range] at h2
    subst h2
    refine ⟨h1, fun v H3 y => ?_⟩
    obtain ⟨e, f⟩ := y
    subst e f
    exact ⟨S2, Stp.refl, .int _⟩
theorem ji_range1 {tg a : Expr} {da : DA} {p pos : Pos} (hg : Gl X "range") (hm : X.mg "range" = none) (ha : JA X [a] da) (hs : starEach [a] X.env = [(false, eval a X.env)] := by rfl) : JI X tg (.Call (.Name "range" p) [a] [] pos) (iRange1 da) := by
  obtain ⟨t, a1, a2⟩ := ha.ex
  refine ⟨_, pi_range1 hg hm a1 hs, fun σ' M σ H R Q E S A h => ?_⟩
  refine a2 σ' M σ H _ _ E S (fun ds M1 vs H1 _ S1 s1 r1 q1 => ?_) h
  match ds, vs, r1, q1 with
  | [.int n], _, .cons (.int _) .nil, q1 =>
    obtain ⟨h1, q⟩ := q1
    refine ⟨n, rfl, h1.1, h1.2, ?_⟩
    have := A _ _ M1 (Itr 0 (n - 0).toNat) H1 S1 s1 (range_ok 0 n) q
    rw [Int.sub_zero] at this
    exact this
theorem ji_range2 {tg a b : Expr} {da : DA} {p pos : Pos} (hg : Gl X "range") (hm : X.mg "range" = none) (ha : JA X [a, b] da) (hs : starEach [a, b] X.env = [(false, eval a X.env), (false, eval b X.env)] := by rfl) (hs2 : starEach [b] X.env = [(false, eval b X.env)] := by rfl) :
    JI X tg (.Call (.Name "range" p) [a, b] [] pos) (iRange2 da) := by
  obtain ⟨t, a1, a2⟩ := ha.ex
  refine ⟨_, pi_range2 hg hm a1 hs hs2, fun σ' M σ H R Q E S A h => ?_⟩
  refine a2 σ' M σ H _ _ E S (fun ds M1 vs H1 _ S1 s1 r1 q1 => ?_) h
  match ds, vs, r1, q1 with
  | [.int i, .int j], _, .cons (.int _) (.cons (.int _) .nil), q1 =>
    obtain ⟨h1, h2, q⟩ := q1
    exact ⟨i, j, rfl, ⟨h1.1, h1.2, h2.1, h2.2⟩, A _ _ M1 _ H1 S1 s1 (range_ok i j) q⟩

/-! ### for -/
def zFor (ι : DI) (g : DG) (b : DS) : DS := fun R σ M => ι σ M fun items ok M1 => ∃ I : Nat → Env → Mm → Prop, I 0 σ M1 ∧
  (∀ (i : Nat) (x : D) σ M, items[i]? = some x → I i σ M → ok M ∧ g x σ M fun σ1 M2 => b { R with nx := I (i + 1), ct := I (i + 1), bk := R.nx } σ1 M2) ∧
  ∀ σ M, I items.length σ M → ok M ∧ R.nx σ M
theorem re_for {K : PySem.W.Frag} {wi : TI} {t : TG} {u : TS} {ι : DI} {g : DG} {b : DS} (hi : ReI K wi ι) (hg : ReG K t g) (hb : ReS K u b) : ReS K (tFor wi t u) (zFor ι g b) := fun R N σ' M σ H E S A h => by
  refine hi σ' M σ H _ _ E S (fun items ok M1 J H1 S1 s1 it q1 => ?_) h
  obtain ⟨I, h0, hs, hd⟩ := q1
  refine ⟨fun i m σ2 H2 => m = items.length - i ∧ i ≤ items.length ∧ ∃ σ2' M2, EnvR K M2 H2 σ2' σ2 ∧ Sim K M2 H2 ∧ Stp M1 H1 M2 H2 ∧ I i σ2' M2, ⟨items.length, by omega, Nat.zero_le _, σ', M1, E.mono S s1, S1, Stp.refl, h0⟩, ?_⟩
  rintro i m σ2 H2 ⟨hm, hle, σ2', M2, E2, S2, s2, hI⟩
  by_cases hlt : i < items.length
  · have hx : items[i]? = some items[i] := List.getElem?_eq_getElem hlt
    obtain ⟨o2, step⟩ := hs i _ σ2' M2 hx hI
    obtain ⟨g1, g2⟩ := it.go M2 H2 S2 s2 o2 i _ hx
    refine .inr ⟨g1, fun σ3 H3 => ∃ σ3' M3, EnvR K M3 H3 σ3' σ3 ∧ Sim K M3 H3 ∧ Stp M1 H1 M3 H3 ∧ I (i + 1) σ3' M3, fun σ3 H3 ⟨σ3', M3, E3, S3, s3, h3⟩ => ⟨items.length - (i + 1), by omega, rfl, hlt, σ3', M3, E3, S3, s3, h3⟩, fun v H3 y => ?_⟩
    obtain ⟨S3, s3, rv⟩ := g2 v H3 y
    refine hg _ v σ2' M2 σ2 H3 _ _ (E2.mono S2 s3) S3 rv (fun σ4' M4 σ4 H4 E4 S4 s4 q4 => ?_) step
    have s14 := s2.trans (s3.trans s4)
    refine hb { R with nx := I (i + 1), ct := I (i + 1), bk := R.nx } _ σ4' M4 σ4 H4 E4 S4 ⟨fun σ5' M5 σ5 H5 E5 S5 s5 q5 => ⟨σ5', M5, E5, S5, s14.trans s5, q5⟩, A.rt.from (s1.trans s14), A.nx.from (s1.trans s14), fun σ5' M5 σ5 H5 E5 S5 s5 q5 => ⟨σ5', M5, E5, S5, s14.trans s5, q5⟩⟩ q4
  · have e : i = items.length := by omega
    subst e
    obtain ⟨o2, q⟩ := hd σ2' M2 hI
    exact .inl ⟨it.stop M2 H2 S2 s2 o2, A.nx _ M2 _ H2 E2 S2 (s1.trans s2) q⟩
theorem js_for {tg iter : Expr} {body : List Stmt} {ι : DI} {g : DG} {b : DS} {pos : Pos} (hp : PassesOwn (model X.prog X.w) X.A X.env X.xe) (hc : X.calm = true) (hi : JI X tg iter ι) (hg : JG X tg g) (hb : JSs X body b)
    (hs : ∀ x, foldedSetIterable iter X.env x = pure x := by intro _; rfl) : JS X (.For tg iter body [] pos) (zFor ι g b) := by
  obtain ⟨wi, a1, a2⟩ := hi.ex
  obtain ⟨t, b1, b2⟩ := hg.ex
  obtain ⟨u, c1, c2⟩ := hb.ex
  exact ⟨_, ps_for hp hc a1 b1 c1 hs, re_for a2 b2 c2⟩
def zWhile (c : DT) (b : DS) : DS := fun R σ M => ∃ W : Nat → Env → Mm → Prop, (∃ m, W m σ M) ∧ ∀ m σ M, W m σ M → c σ M fun k M1 =>
  if k = true then b { R with nx := fun σ' M' => ∃ m', m' < m ∧ W m' σ' M', ct := fun σ' M' => ∃ m', m' < m ∧ W m' σ' M', bk := R.nx } σ M1 else R.nx σ M1
theorem re_while {K : PySem.W.Frag} {t : TT} {u : TS} {c : DT} {b : DS} (hc : ReT K t c) (hb : ReS K u b) : ReS K (tWhile t u) (zWhile c b) := fun R N σ' M σ H E S A h => by
  obtain ⟨W, ⟨m0, w0⟩, turn⟩ := h
  refine ⟨fun m σ2 H2 => ∃ σ2' M2, EnvR K M2 H2 σ2' σ2 ∧ Sim K M2 H2 ∧ Stp M H M2 H2 ∧ W m σ2' M2, ⟨m0, σ', M, E, S, Stp.refl, w0⟩, ?_⟩
  rintro m σ2 H2 ⟨σ2', M2, E2, S2, s2, w2⟩
  refine hc σ2' M2 σ2 H2 _ _ E2 S2 (fun k M3 H3 S3 s3 q3 => ?_) (turn m σ2' M2 w2)
  cases k with
  | true =>
    refine ⟨fun σ4 H4 => ∃ m', m' < m ∧ ∃ σ4' M4, EnvR K M4 H4 σ4' σ4 ∧ Sim K M4 H4 ∧ Stp M H M4 H4 ∧ W m' σ4' M4, fun σ4 H4 q => q, ?_⟩
    have s13 := s2.trans s3
    exact hb { R with nx := fun σ' M' => ∃ m', m' < m ∧ W m' σ' M', ct := fun σ' M' => ∃ m', m' < m ∧ W m' σ' M', bk := R.nx } _ σ2' M3 σ2 H3 (E2.mono S2 s3) S3 ⟨fun σ5' M5 σ5 H5 E5 S5 s5 ⟨m', hm, q5⟩ => ⟨m', hm, σ5', M5, E5, S5, s13.trans s5, q5⟩, A.rt.from s13, A.nx.from s13, fun σ5' M5 σ5 H5 E5 S5 s5 ⟨m', hm, q5⟩ => ⟨m', hm, σ5', M5, E5, S5, s13.trans s5, q5⟩⟩ q3
  | false => exact A.nx _ M3 _ H3 (E2.mono S2 s3) S3 (s2.trans s3) q3
theorem js_while {c : Expr} {body : List Stmt} {tc : DT} {tb : DS} {pos : Pos} (hp : PassesOwn (model X.prog X.w) X.A X.env X.xe) (hc : JT X c tc) (hb : JSs X body tb) : JS X (.While c body [] pos) (zWhile tc tb) := by
  obtain ⟨t, a1, a2⟩ := hc.ex
  obtain ⟨u, b1, b2⟩ := hb.ex
  exact ⟨_, ps_while hp a1 b1, re_while a2 b2⟩
end
end DL

set_option Elab.async false
set_option linter.all false
set_option maxRecDepth 100000
set_option maxHeartbeats 4000000
/-! The data layer, part f: comprehensions, methods of lists, defs. -/
namespace DL
open PySem PySem.Spec L2

def Mm.del (M : Mm) (p : Addr) : Mm := fun b => if b = p then none else M b
theorem Mm.del_sub {M : Mm} {p : Addr} : Sub (M.del p) M := fun a c h => by
  unfold Mm.del at h
  by_cases e : a = p
  · rw [if_pos e] at h
    cases h
  · rw [if_neg e] at h
    exact h
theorem Mm.del_at {M : Mm} {p : Addr} : M.del p p = none := if_pos rfl
theorem Mm.del_upd {M : Mm} {p : Addr} {c : Cell} (n : M p = none) : (M.upd p c).del p = M := by
  funext b
  unfold Mm.del Mm.upd
  by_cases e : b = p
  · rw [if_pos e, e, n]
  · rw [if_neg e, if_neg e]
def wipeD (σ : Env) : List Nat → Env
  | [] => σ
  | v :: vs => (wipeD σ vs).set v none
theorem EnvR.wipe {K : PySem.W.Frag} {M : Mm} {H : Hp} {σ' : Env} {σ : L2.St} (E : EnvR K M H σ' σ) : ∀ vs : List Nat, EnvR K M H (wipeD σ' vs) (L2.wipe σ vs)
  | [] => E
  | v :: vs => by
    have ih := E.wipe vs
    refine ⟨by show ((wipeD σ' vs).set v none).length = ((L2.wipe σ vs).set v none).length; rw [List.length_set, List.length_set]; exact ih.len, fun i d h => ?_⟩
    have h' : ((wipeD σ' vs).set v none)[i]? = some (some d) := h
    have ne : v ≠ i := fun e => by
      subst e
      by_cases hv : v < (wipeD σ' vs).length
      · rw [List.getElem?_set_self hv] at h'
        cases h'
      · rw [List.getElem?_eq_none (by rw [List.length_set]; exact Nat.le_of_not_lt hv)] at h'
        cases h'
    rw [List.getElem?_set_ne ne] at h'
    obtain ⟨w, e, r⟩ := ih.at_ i d h'
    exact ⟨w, by show ((L2.wipe σ vs).set v none)[i]? = _; rw [List.getElem?_set_ne ne]; exact e, r⟩
/-- a target that stores into the block's own names alone -/
def Own (t : TG) (vs : List Nat) : Prop := ∀ v σ H Q, t v σ H Q → t v σ H fun σ2 H2 => wipe σ2 vs = wipe σ vs ∧ Q σ2 H2
theorem wipe_put (i : Nat) : ∀ (vs : List Nat) (σ : L2.St), wipe (σ.set i none) vs = (wipe σ vs).set i none
  | [], _ => rfl
  | v :: vs, σ => by
    show (wipe (σ.set i none) vs).set v none = ((wipe σ vs).set v none).set i none
    rw [wipe_put i vs σ]
    by_cases h : i = v
    · rw [h]
    · rw [List.set_comm _ _ h]
theorem wipe_wipe : ∀ (vs : List Nat) (σ : L2.St), wipe (wipe σ vs) vs = wipe σ vs
  | [], _ => rfl
  | v :: vs, σ => by
    show (wipe ((wipe σ vs).set v none) vs).set v none = (wipe σ vs).set v none
    rw [wipe_put v vs (wipe σ vs), wipe_wipe vs σ, List.set_set]
theorem Own.at {t : TG} {vs : List Nat} (o : Own t vs) {v : V} {σ : L2.St} {H : Hp} {Q : L2.St → Hp → Prop} (h : t v (wipe σ vs) H Q) : t v (wipe σ vs) H fun σ2 H2 => wipe σ2 vs = wipe σ vs ∧ Q σ2 H2 := by
  have q := o v (wipe σ vs) H Q h
  rw [wipe_wipe] at q
  exact q
theorem wipe_set {i : Nat} {o : Option V} : ∀ {vs : List Nat} {σ : L2.St}, i ∈ vs → wipe (σ.set i o) vs = wipe σ vs
  | [], _, h => by cases h
  | v :: vs, σ, h => by
    show (wipe (σ.set i o) vs).set v none = (wipe σ vs).set v none
    by_cases hi : i ∈ vs
    · rw [wipe_set hi]
    · have e : i = v := by
        rcases List.mem_cons.mp h with e | e
        · exact e
        · exact absurd e hi
      subst e
      have key : ∀ (vs : List Nat), i ∉ vs → wipe (σ.set i o) vs = (wipe σ vs).set i o := by
        intro vs
        induction vs with
        | nil => intro _; rfl
        | cons u us ih =>
          intro hn
          show (wipe (σ.set i o) us).set u none = ((wipe σ us).set u none).set i o
          rw [ih (fun z => hn (List.mem_cons_of_mem _ z)), List.set_comm]
          exact fun z => hn (by rw [z]; exact List.mem_cons_self)
      rw [key vs hi, List.set_set]
theorem own_N {i : Nat} {vs : List Nat} (h : i ∈ vs) : Own (gName i) vs := fun _ _ _ _ q => ⟨wipe_set h, q⟩
theorem own_2 {K : PySem.W.Frag} {n i j : Nat} {vs : List Nat} (hi : i ∈ vs) (hj : j ∈ vs) : Own (gTup K n (gCons (gName i) (gCons (gName j) gNil))) vs := fun v σ H Q ⟨a, xs, e1, e2, e3, u, r, e4, w, r2, e5, e6, q⟩ =>
  ⟨a, xs, e1, e2, e3, u, r, e4, w, r2, e5, e6, by rw [wipe_set hj, wipe_set hi], q⟩
theorem own_3 {K : PySem.W.Frag} {n i j k : Nat} {vs : List Nat} (hi : i ∈ vs) (hj : j ∈ vs) (hk : k ∈ vs) : Own (gTup K n (gCons (gName i) (gCons (gName j) (gCons (gName k) gNil)))) vs := fun v σ H Q ⟨a, xs, e1, e2, e3, u, r, e4, w, r2, e5, x, r3, e6, e7, q⟩ =>
  ⟨a, xs, e1, e2, e3, u, r, e4, w, r2, e5, x, r3, e6, e7, by rw [wipe_set hk, wipe_set hj, wipe_set hi], q⟩
theorem own_4 {K : PySem.W.Frag} {n i j k l : Nat} {vs : List Nat} (hi : i ∈ vs) (hj : j ∈ vs) (hk : k ∈ vs) (hl : l ∈ vs) : Own (gTup K n (gCons (gName i) (gCons (gName j) (gCons (gName k) (gCons (gName l) gNil))))) vs := fun v σ H Q ⟨a, xs, e1, e2, e3, u, r, e4, w, r2, e5, x, r3, e6, y, r4, e7, e8, q⟩ =>
  ⟨a, xs, e1, e2, e3, u, r, e4, w, r2, e5, x, r3, e6, y, r4, e7, e8, by rw [wipe_set hl, wipe_set hk, wipe_set hj, wipe_set hi], q⟩

/-- the tests of a clause -/
structure JTs (X : Cx) (ifs : List Expr) (τ : DT) : Prop where
  run : PTs X ifs (cT X.K τ)
def xYes : DT := fun _ M Q => Q true M
section
variable {X : Cx}
theorem jts_nil : JTs X [] xYes := ⟨⟨fun pins s σ H Q I ⟨σ', M, R, E, S, A, q⟩ => pts_nil.run pins s σ H Q I (A true M H S Stp.refl q)⟩⟩
theorem jts_one {c : Expr} {t : DT} (h : JT X c t) : JTs X [c] t := ⟨pts_one h.can⟩

/-! ### list comprehensions -/
def xLcM (ι : DI) (g : DG) (t : DT) (e : DE) (vs : List Nat) : DE := fun σ M Q => ι σ M fun items ok M1 => ∀ p, M1 p = none → ∃ I : Nat → List D → Mm → Prop, I 0 [] (M1.upd p (.lst [])) ∧
  (∀ (i : Nat) (x : D) acc M, items[i]? = some x → I i acc M → ok M ∧ M p = some (.lst acc) ∧ g x (wipeD σ vs) M fun σ2 M2 => t σ2 M2 fun k M3 =>
    if k = true then e σ2 M3 fun y M4 => M4 p = some (.lst acc) ∧ acc.length < sizeLine ∧ I (i + 1) (acc ++ [y]) (M4.upd p (.lst (acc ++ [y]))) else I (i + 1) acc M3) ∧
  ∀ acc M, I items.length acc M → ok M ∧ M p = some (.lst acc) ∧ Q (.ptr p) M
/-- the list's end as a value -/
def xLc (ι : DI) (g : DG) (t : DT) (e : DE) (vs : List Nat) : DE := fun σ M Q => xLcM ι g t e vs σ M fun d M1 => match d with
  | .ptr p => ∃ xs, M1 p = some (.lst xs) ∧ Q (.lst xs) (M1.del p)
  | _ => False
theorem After.frozen {K : PySem.W.Frag} {M : Mm} {H : Hp} {R : DK} {Q : VK} (A : After K M H R Q) : After K M H (fun d M1 => match d with | .ptr p => M p = none ∧ ∃ xs, M1 p = some (.lst xs) ∧ R (.lst xs) (M1.del p) | _ => False) Q := fun d M1 v H1 S1 s1 r1 q1 => by
  cases r1 with
  | ptr p =>
    obtain ⟨n, xs, e, q⟩ := q1
    obtain ⟨vs, hv, rv⟩ := S1 p _ e
    exact A _ (M1.del p) _ H1 (S1.less Mm.del_sub) (s1.less Mm.del_sub) (.lst hv Mm.del_at (rv.less Mm.del_sub)) q
  | _ => exact (show False from q1).elim
theorem re_lcM {K : PySem.W.Frag} {wi : TI} {t : TG} {vs : List Nat} {ι : DI} {g : DG} {tt : DT} {e : DE} (hi : ReI K wi ι) (hg : ReG K t g) (ow : Own t vs) : ReE K (tLc wi t (cT K tt) (cE K e) vs) (xLcM ι g tt e vs) := fun σ' M σ H R Q E S A h => by
  refine hi σ' M σ H _ _ E S (fun items ok M1 J H1 S1 s1 it q1 => ?_) h
  intro p np
  obtain ⟨I, h0, hs, hd⟩ := q1 p (S1.free np)
  have E1 := E.mono S s1
  have sp : Stp M1 H1 (M1.upd p (.lst [])) (upd H1 p (.lst [])) := Stp.put (.inr np)
  have Sp : Sim K (M1.upd p (.lst [])) (upd H1 p (.lst [])) := S1.put (c := .lst []) (.inr np) ⟨[], upd_same, .nil⟩
  refine ⟨fun i m H2 => m = items.length - i ∧ i ≤ items.length ∧ ∃ acc M2, Sim K M2 H2 ∧ Stp M1 H1 M2 H2 ∧ I i acc M2, ⟨items.length, by omega, Nat.zero_le _, [], _, Sp, sp, h0⟩, ?_⟩
  rintro i m H2 ⟨hm, hle, acc, M2, S2, s2, hI⟩
  by_cases hlt : i < items.length
  · have hx : items[i]? = some items[i] := List.getElem?_eq_getElem hlt
    obtain ⟨o2, hp, step⟩ := hs i _ acc M2 hx hI
    obtain ⟨g1, g2⟩ := it.go M2 H2 S2 s2 o2 i _ hx
    refine .inr ⟨g1, fun H3 => ∃ acc' M3, Sim K M3 H3 ∧ Stp M1 H1 M3 H3 ∧ I (i + 1) acc' M3, fun H3 ⟨acc', M3, S3, s3, h3⟩ => ⟨items.length - (i + 1), by omega, rfl, hlt, acc', M3, S3, s3, h3⟩, fun v H3 y => ?_⟩
    obtain ⟨S3, s3, rv⟩ := g2 v H3 y
    have s13 := s2.trans s3
    refine ow.at (hg _ v (wipeD σ' vs) M2 (wipe σ vs) H3 _ _ ((E1.mono S1 s13).wipe vs) S3 rv (fun σ4' M4 σ4 H4 E4 S4 s4 q4 => ?_) step)
    refine ⟨σ4', M4, _, E4, S4, fun k M5 H5 S5 s5 q5 => ?_, q4⟩
    have s15 := s13.trans (s4.trans s5)
    cases k with
    | true =>
      dsimp only at q5 ⊢
      rw [if_pos rfl] at q5 ⊢
      refine ⟨σ4', M5, _, E4.mono S4 s5, S5, fun z M6 w H6 S6 s6 r6 q6 => ?_, q5⟩
      obtain ⟨hp6, hl, hI6⟩ := q6
      obtain ⟨us, hu, ru⟩ := S6 p _ hp6
      have hne : M6 p ≠ none := by rw [hp6]; exact fun z => nomatch z
      have st : Stp M6 H6 (M6.upd p (.lst (acc ++ [z]))) (upd H6 p (.lst (us ++ [w]))) := Stp.put (.inl hne)
      exact ⟨us, hu, by rw [ru.length]; exact hl, _, _, S6.put (c := .lst (acc ++ [z])) (.inl hne) ⟨_, upd_same, (ru.append (.cons r6 .nil)).mono S6 st⟩, s15.trans (s6.trans st), hI6⟩
    | false =>
      dsimp only at q5 ⊢
      rw [if_neg Bool.false_ne_true] at q5 ⊢
      exact ⟨acc, M5, S5, s15, q5⟩
  · have e : i = items.length := by omega
    subst e
    obtain ⟨o2, hp, q⟩ := hd acc M2 hI
    exact .inl ⟨it.stop M2 H2 S2 s2 o2, A _ M2 _ H2 S2 (s1.trans s2) (.ptr p) q⟩
theorem re_lc {K : PySem.W.Frag} {wi : TI} {t : TG} {vs : List Nat} {ι : DI} {g : DG} {tt : DT} {e : DE} (hi : ReI K wi ι) (hg : ReG K t g) (ow : Own t vs) : ReE K (tLc wi t (cT K tt) (cE K e) vs) (xLc ι g tt e vs) := fun σ' M σ H R Q E S A h =>
  re_lcM hi hg ow σ' M σ H _ Q E S (fun d M1 v H1 S1 s1 r1 q1 => by
    cases r1 with
    | ptr p =>
      obtain ⟨xs, e, q⟩ := q1
      obtain ⟨vs, hv, rv⟩ := S1 p _ e
      exact A _ (M1.del p) _ H1 (S1.less Mm.del_sub) (s1.less Mm.del_sub) (.lst hv Mm.del_at (rv.less Mm.del_sub)) q
    | _ => exact (show False from q1).elim) h
/-- a target within a block: the same reading wherever the block stands -/
structure JB (X : Cx) (scope : Scope) (tg : Expr) (vs : List Nat) (g : DG) : Prop where
  ex : ∃ t, (∀ (s : Shared) (H : Hp) (C : Addr) (cl : List (Str × Addr)) (fp : List Addr), PG (X.blk s H scope (compEnvC scope cl C X.env) fp) tg t) ∧ ReG X.K t g ∧ Own t vs
section
variable {elt tg iter : Expr} {ifs : List Expr} {scope : Scope} {own : List (Str × Nat)} {pos spos py : Pos} {ι : DI} {g : DG} {t : DT} {e : DE} {i : Nat} {y : Str}
theorem j_lc (hc : X.calm = true) (hN : X.N.Nodup) (hi : JI X tg iter ι) (ok : BlkOk X.N X.env.scope scope own) (hg : JB X scope tg (own.map (·.2)) g)
    (ht : ∀ (s : Shared) (H : Hp) (C : Addr) (cl : List (Str × Addr)) (fp : List Addr), JTs (X.blk s H scope (compEnvC scope cl C X.env) fp) ifs t)
    (he : ∀ (s : Shared) (H : Hp) (C : Addr) (cl : List (Str × Addr)) (fp : List Addr), JE (X.blk s H scope (compEnvC scope cl C X.env) fp) elt e) (hs : ∀ x, foldedSetIterable iter X.env x = pure x := by intro _; rfl) :
    JE X (.ListComp elt [⟨tg, iter, ifs, 0⟩] scope pos) (xLc ι g t e (own.map (·.2))) := by
  obtain ⟨wi, a1, a2⟩ := hi.ex
  obtain ⟨u, b1, b2, b3⟩ := hg.ex
  exact ⟨_, pe_lc hc hN a1 ok b1 (fun s H C cl fp => (ht s H C cl fp).run) (fun s H C cl fp => (he s H C cl fp).can) hs, re_lc a2 b2 b3⟩
theorem j_lcM (hc : X.calm = true) (hN : X.N.Nodup) (hi : JI X tg iter ι) (ok : BlkOk X.N X.env.scope scope own) (hg : JB X scope tg (own.map (·.2)) g)
    (ht : ∀ (s : Shared) (H : Hp) (C : Addr) (cl : List (Str × Addr)) (fp : List Addr), JTs (X.blk s H scope (compEnvC scope cl C X.env) fp) ifs t)
    (he : ∀ (s : Shared) (H : Hp) (C : Addr) (cl : List (Str × Addr)) (fp : List Addr), JE (X.blk s H scope (compEnvC scope cl C X.env) fp) elt e) (hs : ∀ x, foldedSetIterable iter X.env x = pure x := by intro _; rfl) :
    JE X (.ListComp elt [⟨tg, iter, ifs, 0⟩] scope pos) (xLcM ι g t e (own.map (·.2))) := by
  obtain ⟨wi, a1, a2⟩ := hi.ex
  obtain ⟨u, b1, b2, b3⟩ := hg.ex
  exact ⟨_, pe_lc hc hN a1 ok b1 (fun s H C cl fp => (ht s H C cl fp).run) (fun s H C cl fp => (he s H C cl fp).can) hs, re_lcM a2 b2 b3⟩
/-- name = [..] on one line -/
theorem js_setLc (hc : X.calm = true) (hN : X.N.Nodup) (hy : X.N[i]? = some y) (hyl : X.env.scope.names.lookup y = some .local) (hsw : swapsWith (.ListComp elt [⟨tg, iter, ifs, 0⟩] scope pos) (some (.Name y py)) spos.line X.env = pure true)
    (hi : JI X tg iter ι) (ok : BlkOk X.N X.env.scope scope own) (hg : JB X scope tg (own.map (·.2)) g)
    (ht : ∀ (s : Shared) (H : Hp) (C : Addr) (cl : List (Str × Addr)) (fp : List Addr), JTs (X.blk s H scope (compEnvC scope cl C X.env) fp) ifs t)
    (he : ∀ (s : Shared) (H : Hp) (C : Addr) (cl : List (Str × Addr)) (fp : List Addr), JE (X.blk s H scope (compEnvC scope cl C X.env) fp) elt e) (hs : ∀ x, foldedSetIterable iter X.env x = pure x := by intro _; rfl) :
    JS X (.Assign [.Name y py] (.ListComp elt [⟨tg, iter, ifs, 0⟩] scope pos) spos) (zSet i (xLc ι g t e (own.map (·.2)))) := by
  obtain ⟨wi, a1, a2⟩ := hi.ex
  obtain ⟨u, b1, b2, b3⟩ := hg.ex
  exact ⟨_, ps_setLc hc hN hy hyl hsw a1 ok b1 (fun s H C cl fp => (ht s H C cl fp).run) (fun s H C cl fp => (he s H C cl fp).can) hs, re_set (re_lc a2 b2 b3)⟩
theorem js_setLcM (hc : X.calm = true) (hN : X.N.Nodup) (hy : X.N[i]? = some y) (hyl : X.env.scope.names.lookup y = some .local) (hsw : swapsWith (.ListComp elt [⟨tg, iter, ifs, 0⟩] scope pos) (some (.Name y py)) spos.line X.env = pure true)
    (hi : JI X tg iter ι) (ok : BlkOk X.N X.env.scope scope own) (hg : JB X scope tg (own.map (·.2)) g)
    (ht : ∀ (s : Shared) (H : Hp) (C : Addr) (cl : List (Str × Addr)) (fp : List Addr), JTs (X.blk s H scope (compEnvC scope cl C X.env) fp) ifs t)
    (he : ∀ (s : Shared) (H : Hp) (C : Addr) (cl : List (Str × Addr)) (fp : List Addr), JE (X.blk s H scope (compEnvC scope cl C X.env) fp) elt e) (hs : ∀ x, foldedSetIterable iter X.env x = pure x := by intro _; rfl) :
    JS X (.Assign [.Name y py] (.ListComp elt [⟨tg, iter, ifs, 0⟩] scope pos) spos) (zSet i (xLcM ι g t e (own.map (·.2)))) := by
  obtain ⟨wi, a1, a2⟩ := hi.ex
  obtain ⟨u, b1, b2, b3⟩ := hg.ex
  exact ⟨_, ps_setLc hc hN hy hyl hsw a1 ok b1 (fun s H C cl fp => (ht s H C cl fp).run) (fun s H C cl fp => (he s H C cl fp).can) hs, re_set (re_lcM a2 b2 b3)⟩
theorem jb_N {x : Str} (hm : i ∈ own.map (·.2)) (hp : ∀ (s : Shared) (H : Hp) (C : Addr) (cl : List (Str × Addr)) (fp : List Addr), PG (X.blk s H scope (compEnvC scope cl C X.env) fp) (.Name x pos) (gName i)) : JB X scope (.Name x pos) (own.map (·.2)) (yN i) :=
  ⟨_, hp, re_N, own_N hm⟩
theorem jb_2 {tg : Expr} {i j : Nat} (hm : i ∈ own.map (·.2)) (hn : j ∈ own.map (·.2))
    (hp : ∀ (s : Shared) (H : Hp) (C : Addr) (cl : List (Str × Addr)) (fp : List Addr), PG (X.blk s H scope (compEnvC scope cl C X.env) fp) tg (gTup X.K 2 (gCons (gName i) (gCons (gName j) gNil)))) :
    JB X scope tg (own.map (·.2)) (yTup 2 (yCons (yN i) (yCons (yN j) yNil))) :=
  ⟨_, hp, re_gTup (re_gCons re_N (re_gCons re_N re_gNil)), own_2 hm hn⟩
theorem jb_3 {tg : Expr} {i j l : Nat} (hm : i ∈ own.map (·.2)) (hn : j ∈ own.map (·.2)) (ho : l ∈ own.map (·.2))
    (hp : ∀ (s : Shared) (H : Hp) (C : Addr) (cl : List (Str × Addr)) (fp : List Addr), PG (X.blk s H scope (compEnvC scope cl C X.env) fp) tg (gTup X.K 3 (gCons (gName i) (gCons (gName j) (gCons (gName l) gNil))))) :
    JB X scope tg (own.map (·.2)) (yTup 3 (yCons (yN i) (yCons (yN j) (yCons (yN l) yNil)))) :=
  ⟨_, hp, re_gTup (re_gCons re_N (re_gCons re_N (re_gCons re_N re_gNil))), own_3 hm hn ho⟩
end

/-! ### two clauses -/
def xLc2M (ι : DI) (g : DG) (t : DT) (ι1 : DI) (g1 : DG) (t1 : DT) (e : DE) (vs vs1 : List Nat) : DE := fun σ M Q => ι σ M fun items ok M1 => ∀ p, M1 p = none → ∃ I : Nat → List D → Mm → Prop, I 0 [] (M1.upd p (.lst [])) ∧
  (∀ (i : Nat) (x : D) acc M, items[i]? = some x → I i acc M → ok M ∧ M p = some (.lst acc) ∧ g x (wipeD σ vs) M fun σ2 M2 => t σ2 M2 fun k M3 =>
    if k = true then ι1 σ2 M3 fun items1 ok1 M4 => ∃ I1 : Nat → List D → Mm → Prop, I1 0 acc M4 ∧
      (∀ (j : Nat) (y : D) acc1 M, items1[j]? = some y → I1 j acc1 M → ok1 M ∧ M p = some (.lst acc1) ∧ g1 y (wipeD σ2 vs1) M fun σ3 M5 => t1 σ3 M5 fun k M6 =>
        if k = true then e σ3 M6 fun z M7 => M7 p = some (.lst acc1) ∧ acc1.length < sizeLine ∧ I1 (j + 1) (acc1 ++ [z]) (M7.upd p (.lst (acc1 ++ [z]))) else I1 (j + 1) acc1 M6) ∧
      ∀ acc1 M, I1 items1.length acc1 M → ok1 M ∧ I (i + 1) acc1 M
    else I (i + 1) acc M3) ∧
  ∀ acc M, I items.length acc M → ok M ∧ M p = some (.lst acc) ∧ Q (.ptr p) M
def xLc2 (ι : DI) (g : DG) (t : DT) (ι1 : DI) (g1 : DG) (t1 : DT) (e : DE) (vs vs1 : List Nat) : DE := fun σ M Q => xLc2M ι g t ι1 g1 t1 e vs vs1 σ M fun d M1 => match d with
  | .ptr p => ∃ xs, M1 p = some (.lst xs) ∧ Q (.lst xs) (M1.del p)
  | _ => False
theorem re_lc2M {K : PySem.W.Frag} {wi : TI} {t t1 : TG} {vs vs1 : List Nat} {ι ι1 : DI} {g g1 : DG} {tt tt1 : DT} {e : DE} (hi : ReI K wi ι) (hg : ReG K t g) (ow : Own t vs) (hg1 : ReG K t1 g1) (ow1 : Own t1 vs1) :
    ReE K (tLc2 wi t (cT K tt) (cI K ι1) t1 (cT K tt1) (cE K e) vs vs1) (xLc2M ι g tt ι1 g1 tt1 e vs vs1) := fun σ' M σ H R Q E S A h => by
  refine hi σ' M σ H _ _ E S (fun items ok M1 J H1 S1 s1 it q1 => ?_) h
  intro p np
  obtain ⟨I, h0, hs, hd⟩ := q1 p (S1.free np)
  have E1 := E.mono S s1
  have sp : Stp M1 H1 (M1.upd p (.lst [])) (upd H1 p (.lst [])) := Stp.put (.inr np)
  have Sp : Sim K (M1.upd p (.lst [])) (upd H1 p (.lst [])) := S1.put (c := .lst []) (.inr np) ⟨[], upd_same, .nil⟩
  refine ⟨fun i m H2 => m = items.length - i ∧ i ≤ items.length ∧ ∃ acc M2, Sim K M2 H2 ∧ Stp M1 H1 M2 H2 ∧ I i acc M2, ⟨items.length, by omega, Nat.zero_le _, [], _, Sp, sp, h0⟩, ?_⟩
  rintro i m H2 ⟨hm, hle, acc, M2, S2, s2, hI⟩
  by_cases hlt : i < items.length
  · have hx : items[i]? = some items[i] := List.getElem?_eq_getElem hlt
    obtain ⟨o2, hp, step⟩ := hs i _ acc M2 hx hI
    obtain ⟨g1', g2⟩ := it.go M2 H2 S2 s2 o2 i _ hx
    refine .inr ⟨g1', fun H3 => ∃ acc' M3, Sim K M3 H3 ∧ Stp M1 H1 M3 H3 ∧ I (i + 1) acc' M3, fun H3 ⟨acc', M3, S3, s3, h3⟩ => ⟨items.length - (i + 1), by omega, rfl, hlt, acc', M3, S3, s3, h3⟩, fun v H3 y => ?_⟩
    obtain ⟨S3, s3, rv⟩ := g2 v H3 y
    have s13 := s2.trans s3
    refine ow.at (hg _ v (wipeD σ' vs) M2 (wipe σ vs) H3 _ _ ((E1.mono S1 s13).wipe vs) S3 rv (fun σ4' M4 σ4 H4 E4 S4 s4 q4 => ?_) step)
    refine ⟨σ4', M4, _, E4, S4, fun k M5 H5 S5 s5 q5 => ?_, q4⟩
    have s15 := s13.trans (s4.trans s5)
    cases k with
    | false =>
      dsimp only at q5 ⊢
      rw [if_neg Bool.false_ne_true] at q5 ⊢
      exact ⟨acc, M5, S5, s15, q5⟩
    | true =>
      dsimp only at q5 ⊢
      rw [if_pos rfl] at q5 ⊢
      refine ⟨σ4', M5, _, E4.mono S4 s5, S5, fun items1 ok1 M6 J1 H6 S6 s6 it1 q6 => ?_, q5⟩
      obtain ⟨I1, k0, ks, kd⟩ := q6
      have s16 := s15.trans s6
      have E6 := E4.mono S4 (s5.trans s6)
      refine ⟨fun j m H7 => m = items1.length - j ∧ j ≤ items1.length ∧ ∃ acc1 M7, Sim K M7 H7 ∧ Stp M6 H6 M7 H7 ∧ I1 j acc1 M7, ⟨items1.length, by omega, Nat.zero_le _, acc, _, S6, Stp.refl, k0⟩, ?_⟩
      rintro j m1 H7 ⟨hm1, hle1, acc1, M7, S7, s7, hI1⟩
      by_cases hlt1 : j < items1.length
      · have hy : items1[j]? = some items1[j] := List.getElem?_eq_getElem hlt1
        obtain ⟨o7, hp7, step1⟩ := ks j _ acc1 M7 hy hI1
        obtain ⟨f1, f2⟩ := it1.go M7 H7 S7 s7 o7 j _ hy
        refine .inr ⟨f1, fun H8 => ∃ acc' M8, Sim K M8 H8 ∧ Stp M6 H6 M8 H8 ∧ I1 (j + 1) acc' M8, fun H8 ⟨acc', M8, S8, s8, h8⟩ => ⟨items1.length - (j + 1), by omega, rfl, hlt1, acc', M8, S8, s8, h8⟩, fun v1 H8 y1 => ?_⟩
        obtain ⟨S8, s8, rv1⟩ := f2 v1 H8 y1
        have s78 := s7.trans s8
        refine ow1.at (hg1 _ v1 (wipeD σ4' vs1) M7 (wipe σ4 vs1) H8 _ _ ((E6.mono S6 s78).wipe vs1) S8 rv1 (fun σ9' M9 σ9 H9 E9 S9 s9 q9 => ?_) step1)
        refine ⟨σ9', M9, _, E9, S9, fun k1 M10 H10 S10 s10 q10 => ?_, q9⟩
        have s710 := s78.trans (s9.trans s10)
        cases k1 with
        | false =>
          dsimp only at q10 ⊢
          rw [if_neg Bool.false_ne_true] at q10 ⊢
          exact ⟨acc1, M10, S10, s710, q10⟩
        | true =>
          dsimp only at q10 ⊢
          rw [if_pos rfl] at q10 ⊢
          refine ⟨σ9', M10, _, E9.mono S9 s10, S10, fun z M11 w H11 S11 s11 r11 q11 => ?_, q10⟩
          obtain ⟨hp11, hl, hI11⟩ := q11
          obtain ⟨us, hu, ru⟩ := S11 p _ hp11
          have hne : M11 p ≠ none := by rw [hp11]; exact fun z => nomatch z
          have st : Stp M11 H11 (M11.upd p (.lst (acc1 ++ [z]))) (upd H11 p (.lst (us ++ [w]))) := Stp.put (.inl hne)
          exact ⟨us, hu, by rw [ru.length]; exact hl, _, _, S11.put (c := .lst (acc1 ++ [z])) (.inl hne) ⟨_, upd_same, (ru.append (.cons r11 .nil)).mono S11 st⟩, s710.trans (s11.trans st), hI11⟩
      · have e : j = items1.length := by omega
        subst e
        obtain ⟨o7, q⟩ := kd acc1 M7 hI1
        exact .inl ⟨it1.stop M7 H7 S7 s7 o7, acc1, M7, S7, s16.trans s7, q⟩
  · have e : i = items.length := by omega
    subst e
    obtain ⟨o2, hp, q⟩ := hd acc M2 hI
    exact .inl ⟨it.stop M2 H2 S2 s2 o2, A _ M2 _ H2 S2 (s1.trans s2) (.ptr p) q⟩
theorem re_lc2 {K : PySem.W.Frag} {wi : TI} {t t1 : TG} {vs vs1 : List Nat} {ι ι1 : DI} {g g1 : DG} {tt tt1 : DT} {e : DE} (hi : ReI K wi ι) (hg : ReG K t g) (ow : Own t vs) (hg1 : ReG K t1 g1) (ow1 : Own t1 vs1) :
    ReE K (tLc2 wi t (cT K tt) (cI K ι1) t1 (cT K tt1) (cE K e) vs vs1) (xLc2 ι g tt ι1 g1 tt1 e vs vs1) := fun σ' M σ H R Q E S A h =>
  re_lc2M hi hg ow hg1 ow1 σ' M σ H _ Q E S (fun d M1 v H1 S1 s1 r1 q1 => by
    cases r1 with
    | ptr p =>
      obtain ⟨xs, e, q⟩ := q1
      obtain ⟨vs, hv, rv⟩ := S1 p _ e
      exact A _ (M1.del p) _ H1 (S1.less Mm.del_sub) (s1.less Mm.del_sub) (.lst hv Mm.del_at (rv.less Mm.del_sub)) q
    | _ => exact (show False from q1).elim) h
section
variable {elt tg iter tg1 iter1 : Expr} {ifs ifs1 : List Expr} {scope : Scope} {own own1 : List (Str × Nat)} {pos spos py : Pos} {ι ι1 : DI} {g g1 : DG} {t t1 : DT} {e : DE} {i : Nat} {y : Str}
theorem j_lc2 (hc : X.calm = true) (hN : X.N.Nodup) (hi : JI X tg iter ι) (ok : BlkOk X.N X.env.scope scope own) (hv : ∀ i ∈ own1.map (·.2), i ∈ own.map (·.2)) (hg : JB X scope tg (own.map (·.2)) g)
    (ht : ∀ (s : Shared) (H : Hp) (C : Addr) (cl : List (Str × Addr)) (fp : List Addr), JTs (X.blk s H scope (compEnvC scope cl C X.env) fp) ifs t)
    (hi1 : ∀ (s : Shared) (H : Hp) (C : Addr) (cl : List (Str × Addr)) (fp : List Addr), JI (X.blk s H scope (compEnvC scope cl C X.env) fp) tg1 iter1 ι1) (hg1 : JB X scope tg1 (own1.map (·.2)) g1)
    (ht1 : ∀ (s : Shared) (H : Hp) (C : Addr) (cl : List (Str × Addr)) (fp : List Addr), JTs (X.blk s H scope (compEnvC scope cl C X.env) fp) ifs1 t1)
    (he : ∀ (s : Shared) (H : Hp) (C : Addr) (cl : List (Str × Addr)) (fp : List Addr), JE (X.blk s H scope (compEnvC scope cl C X.env) fp) elt e)
    (hs : ∀ x, foldedSetIterable iter X.env x = pure x := by intro _; rfl) (hs1 : ∀ env x, foldedSetIterable iter1 env x = pure x := by intro _ _; rfl) :
    JE X (.ListComp elt [⟨tg, iter, ifs, 0⟩, ⟨tg1, iter1, ifs1, 0⟩] scope pos) (xLc2 ι g t ι1 g1 t1 e (own.map (·.2)) (own1.map (·.2))) := by
  obtain ⟨wi, a1, a2⟩ := hi.ex
  obtain ⟨u, b1, b2, b3⟩ := hg.ex
  obtain ⟨w, c1, c2, c3⟩ := hg1.ex
  exact ⟨_, pe_lc2 hc hN a1 ok hv b1 (fun s H C cl fp => (ht s H C cl fp).run) (fun s H C cl fp => (hi1 s H C cl fp).can) c1 (fun s H C cl fp => (ht1 s H C cl fp).run) (fun s H C cl fp => (he s H C cl fp).can) hs hs1, re_lc2 a2 b2 b3 c2 c3⟩
theorem js_setLc2 (hc : X.calm = true) (hN : X.N.Nodup) (hy : X.N[i]? = some y) (hyl : X.env.scope.names.lookup y = some .local) (hsw : swapsWith (.ListComp elt [⟨tg, iter, ifs, 0⟩, ⟨tg1, iter1, ifs1, 0⟩] scope pos) (some (.Name y py)) spos.line X.env = pure true)
    (hi : JI X tg iter ι) (ok : BlkOk X.N X.env.scope scope own) (hv : ∀ i ∈ own1.map (·.2), i ∈ own.map (·.2)) (hg : JB X scope tg (own.map (·.2)) g)
    (ht : ∀ (s : Shared) (H : Hp) (C : Addr) (cl : List (Str × Addr)) (fp : List Addr), JTs (X.blk s H scope (compEnvC scope cl C X.env) fp) ifs t)
    (hi1 : ∀ (s : Shared) (H : Hp) (C : Addr) (cl : List (Str × Addr)) (fp : List Addr), JI (X.blk s H scope (compEnvC scope cl C X.env) fp) tg1 iter1 ι1) (hg1 : JB X scope tg1 (own1.map (·.2)) g1)
    (ht1 : ∀ (s : Shared) (H : Hp) (C : Addr) (cl : List (Str × Addr)) (fp : List Addr), JTs (X.blk s H scope (compEnvC scope cl C X.env) fp) ifs1 t1)
    (he : ∀ (s : Shared) (H : Hp) (C : Addr) (cl : List (Str × Addr)) (fp : List Addr), JE (X.blk s H scope (compEnvC scope cl C X.env) fp) elt e)
    (hs : ∀ x, foldedSetIterable iter X.env x = pure x := by intro _; rfl) (hs1 : ∀ env x, foldedSetIterable iter1 env x = pure x := by intro _ _; rfl) :
    JS X (.Assign [.Name y py] (.ListComp elt [⟨tg, iter, ifs, 0⟩, ⟨tg1, iter1, ifs1, 0⟩] scope pos) spos) (zSet i (xLc2 ι g t ι1 g1 t1 e (own.map (·.2)) (own1.map (·.2)))) := by
  obtain ⟨wi, a1, a2⟩ := hi.ex
  obtain ⟨u, b1, b2, b3⟩ := hg.ex
  obtain ⟨w, c1, c2, c3⟩ := hg1.ex
  exact ⟨_, ps_setLc2 hc hN hy hyl hsw a1 ok hv b1 (fun s H C cl fp => (ht s H C cl fp).run) (fun s H C cl fp => (hi1 s H C cl fp).can) c1 (fun s H C cl fp => (ht1 s H C cl fp).run) (fun s H C cl fp => (he s H C cl fp).can) hs hs1, re_set (re_lc2 a2 b2 b3 c2 c3)⟩
end

/-! ### methods of lists -/
def xApp (o a : DE) : DE := fun σ M Q => o σ M fun q M1 => match q with
  | .ptr p => (∃ xs, M1 p = some (.lst xs)) ∧ a σ M1 fun d M2 => ∃ xs, M2 p = some (.lst xs) ∧ xs.length < sizeLine ∧ Q .non (M2.upd p (.lst (xs ++ [d])))
  | _ => False
section
variable {o e : Expr} {eo ea : DE} {apos cpos : Pos}
theorem j_app (ho : JE X o eo) (ha : JE X e ea) (hse : starEach [e] X.env = (false, eval e X.env) :: starEach [] X.env := by rfl)
    (hbase : attributeBase o "append" X.env (eval o X.env) = eval o X.env := by rfl)
    (hfew : ((backTo cpos (starEach [e] X.env)).all (fun x => !x.1) && (backToKw cpos (keywordEach [] X.env)).all (fun x => x.1.isSome)
      && decide (([e] : List Expr).length + ([] : List Keyword).length + (if ([] : List Keyword).isEmpty then 0 else 1) < 30)) = true := by rfl)
    (hline : (apos.endLine == cpos.line) = true := by rfl) (hplain : (backTo cpos (starEach [] X.env)).any (·.1) = false := by rfl) : JE X (.Call (.Attribute o "append" apos) [e] [] cpos) (xApp eo ea) := by
  obtain ⟨t, a1, a2⟩ := ho.ex
  obtain ⟨u, b1, b2⟩ := ha.ex
  refine ⟨_, pe_bm PySem.F.plainAttrs_list PySem.F.slot_list_append PySem.F.type_list_append mt_append a1 (pa_cons b1 pa_nil hse) hbase hfew hline hse hplain, fun σ' M σ H R Q E S A h => ?_⟩
  refine a2 σ' M σ H _ _ E S (fun q M1 v H1 S1 s1 r1 q1 => ?_) h
  cases r1 with
  | ptr p =>
    obtain ⟨⟨xs0, e0⟩, q2⟩ := q1
    obtain ⟨vs0, hv0, _⟩ := S1 p _ e0
    refine ⟨.inl ⟨rfl, vs0, SqL.of hv0⟩, ?_⟩
    refine b2 σ' M1 σ H1 _ _ (E.mono S s1) S1 (fun d M2 w H2 S2 s2 r2 q3 => ?_) q2
    obtain ⟨xs, e, hl, q⟩ := q3
    obtain ⟨vs, hv, rv⟩ := S2 p _ e
    have hne : M2 p ≠ none := by rw [e]; exact fun z => nomatch z
    have st : Stp M2 H2 (M2.upd p (.lst (xs ++ [d]))) (upd H2 p (.lst (vs ++ [w]))) := Stp.put (.inl hne)
    exact ⟨p, vs, w, rfl, rfl, hv, by rw [rv.length]; exact hl, A _ _ _ _ (S2.put (c := .lst (xs ++ [d])) (.inl hne) ⟨_, upd_same, (rv.append (.cons r2 .nil)).mono S2 st⟩) (s1.trans (s2.trans st)) .non q⟩
  | _ => exact (show False from q1).elim
end

/-! ### defs -/
theorem startD {K : PySem.W.Frag} {M : Mm} {H : Hp} {vs : List V} {ds : List D} (r : RepA K M H vs ds) (N : List Str) : EnvR K M H (ds.map some ++ List.replicate (N.length - ds.length) none) (L2.start N vs) := by
  unfold L2.start
  rw [r.length]
  refine ⟨by rw [List.length_append, List.length_append, List.length_map, List.length_map, List.length_replicate, List.length_replicate, r.length], fun i d h => ?_⟩
  by_cases hi : i < ds.length
  · rw [List.getElem?_append_left (by rw [List.length_map]; exact hi), List.getElem?_map] at h
    obtain ⟨e, he, hd⟩ := Option.map_eq_some_iff.mp h
    cases hd
    obtain ⟨v, hv, rv⟩ := r.get he
    refine ⟨v, ?_, rv⟩
    rw [List.getElem?_append_left (by rw [List.length_map, r.length]; exact hi), List.getElem?_map, hv]
    rfl
  · rw [List.getElem?_append_right (by rw [List.length_map]; exact Nat.le_of_not_lt hi), List.getElem?_replicate] at h
    split at h <;> cases h
/-- the frame at the entry -/
def enter (n : Nat) (ds : List D) : Env := ds.map some ++ List.replicate (n - ds.length) none
/-- what a def may hand back: the end's memory may be forgotten in part; a list may be handed back as a value -/
inductive Gone (M' M : Mm) : D → D → Prop
  | same {d : D} (s : Sub M M') : Gone M' M d d
  | frz {p : Addr} {xs : List D} (s : Sub M M') (h : M' p = some (.lst xs)) (n : M p = none) : Gone M' M (.ptr p) (.lst xs)
theorem Gone.rep {K : PySem.W.Frag} {M M' : Mm} {H : Hp} {v : V} {d e : D} (S : Sim K M' H) (g : Gone M' M d e) (r : Rep K M' H v d) : Rep K M H v e := by
  cases g with
  | same s => exact r.less s
  | frz s h n =>
    cases r
    obtain ⟨vs, hv, rv⟩ := S _ _ h
    exact .lst hv n (rv.less s)
theorem Gone.sub {M M' : Mm} {d e : D} (g : Gone M' M d e) : Sub M M' := by
  cases g with
  | same s => exact s
  | frz s _ _ => exact s
variable {P : Program} {w : World} {K : PySem.W.Frag} {mg : Str → Option Value} {base : Heap}
/-- a def of the text keeps a data promise -/
theorem def_ok {x qual : Str} {st : Stmt} {f : Addr} {fd : FuncData} {N ps : List Str} {k n : Nat} {p : DSp} {b : DS} (F : Fun K x qual st f fd) (S : FnScope N ps (defScope st)) (hn : n = ps.length)
    (hbody : ∀ (cdv : Value) (A : Around) (outer : List PySem.Env) (s : Shared) (H : Hp) (E : XK), Room k (A.deeper (PyProof.Rows.envOfC qual (defScope st) s.heap.objs.size f cdv)) →
      JSs (cxOf CX0 P w K mg base N qual (defScope st) f cdv A outer s H E).nox (defBody st) b)
    (hp : ∀ ds M R, ds.length = n → p ds M R → b { nx := fun _ M' => ∃ e M2, Gone M' M2 .non e ∧ R e M2, rt := fun d M' => ∃ e M2, Gone M' M2 d e ∧ R e M2 } (enter N.length ds) M) :
    FnOk P w K mg base CX0 (k + 1) f fd ps (lift K n p) := by
  refine F.ok S (fun vs H Q E h => by rw [lift_len vs H Q E h]; exact hn) (fun cdv A outer s H vs Q E hr h => ?_)
  obtain ⟨ds, M, R, r, Sm, Af, hl, q⟩ := h
  obtain ⟨t, b1, b2⟩ := (hbody cdv A outer s H E hr).ex
  refine ⟨t, b1, b2 _ _ _ M _ H (startD r N) Sm ⟨?_, ?_, ?_, ?_⟩ (hp ds M R hl q)⟩
  · intro σ2' M2 σ2 H2 E2 S2 s2 ⟨e, M3, g, q3⟩
    exact Af e M3 .non H2 (S2.less g.sub) (s2.less g.sub) (g.rep S2 .non) q3
  · intro d M2 v H2 S2 s2 r2 ⟨e, M3, g, q3⟩
    exact Af e M3 v H2 (S2.less g.sub) (s2.less g.sub) (g.rep S2 r2) q3
  · intro σ2' M2 σ2 H2 E2 S2 s2 q
    exact False.elim q
  · intro σ2' M2 σ2 H2 E2 S2 s2 q
    exact False.elim q
end
end DL

set_option Elab.async false
set_option linter.all false
set_option maxRecDepth 100000
set_option maxHeartbeats 4000000
/-! The data layer, part g: more calls, dicts with int and text keys. -/
namespace DL
open PySem PySem.Spec L2

abbrev oSub : DR := o2 fun i j M Q => Q (.int (i - j)) M
abbrev oMul : DR := o2 fun i j M Q => CMul i j ∧ Q (.int (i * j)) M
abbrev oFdiv : DR := o2 fun i j M Q => CDiv i j ∧ Q (.int (i / j)) M
abbrev oMod : DR := o2 fun i j M Q => 0 < j ∧ Q (.int (i % j)) M
abbrev oPow : DR := o2 fun i j M Q => CPow i j ∧ Q (.int (i ^ j.toNat)) M
abbrev oLe : DR := o2 fun i j M Q => Q (.bl (decide (i ≤ j))) M
abbrev oGt : DR := o2 fun i j M Q => Q (.bl (decide (j < i))) M
abbrev oGe : DR := o2 fun i j M Q => Q (.bl (decide (j ≤ i))) M
theorem bt_len : bootBuiltins "len" = some (Value.builtin "len") := by decide +kernel
theorem bt_abs : bootBuiltins "abs" = some (Value.builtin "abs") := by decide +kernel
theorem bt_max : bootBuiltins "max" = some (Value.builtin "max") := by decide +kernel
theorem bt_min : bootBuiltins "min" = some (Value.builtin "min") := by decide +kernel
theorem bt_sum : bootBuiltins "sum" = some (Value.builtin "sum") := by decide +kernel
theorem bt_sorted : bootBuiltins "sorted" = some (Value.builtin "sorted") := by decide +kernel
theorem bt_repr : bootBuiltins "repr" = some (Value.builtin "repr") := by decide +kernel
theorem bt_isinstance : bootBuiltins "isinstance" = some (Value.builtin "isinstance") := by decide +kernel
theorem bt_int : bootBuiltins "int" = some (Value.type "int") := by decide +kernel
theorem bt_bool : bootBuiltins "bool" = some (Value.type "bool") := by decide +kernel
theorem bt_str : bootBuiltins "str" = some (Value.type "str") := by decide +kernel
theorem bt_list : bootBuiltins "list" = some (Value.type "list") := by decide +kernel
theorem bt_tuple : bootBuiltins "tuple" = some (Value.type "tuple") := by decide +kernel
theorem bt_range : bootBuiltins "range" = some (Value.type "range") := by decide +kernel
theorem bt_enumerate : bootBuiltins "enumerate" = some (Value.type "enumerate") := by decide +kernel
theorem bt_set : bootBuiltins "set" = some (Value.type "set") := by decide +kernel
theorem _root_.L2.Room.units65 {k : Nat} {A : Around} (r : Room k A) : A.units + 65 < cLine := by
  have := r.un
  omega
section
variable {X : Cx}
theorem j_globI' {x : Str} {i : Int} {pos : Pos} (hg : Gl X x) (hm : ∃ t, X.mg x = some (.int i t)) (hd : (x == ("__debug__" : Str)) = false := by decide) : JE X (.Name x pos) (xC (.int i)) := by
  obtain ⟨t, h⟩ := hm
  exact j_globI hg h hd
/-- a, b, c = x, y, z -/
theorem js_par3 {i j l : Nat} {x y z : Str} {e1 e2 e3 : Expr} {a : DA} {px py pz pt pos : Pos} {kt k2 pt2} (hc : X.calm = true) (hN : X.N.Nodup) (hi : X.N[i]? = some x) (hj : X.N[j]? = some y) (hl : X.N[l]? = some z) (hij : i ≠ j) (hil : i ≠ l) (hjl : j ≠ l)
    (hx : X.env.scope.names.lookup x = some .local) (hy : X.env.scope.names.lookup y = some .local) (hz : X.env.scope.names.lookup z = some .local) (ha : JA X [e1, e2, e3] a)
    (hw : swappedStores [.Tuple [.Name x px, .Name y py, .Name z pz] kt pt] (.Tuple [e1, e2, e3] k2 pt2) X.env = pure (some [x, y, z]))
    (hs : swapsWithSole [.Tuple [.Name x px, .Name y py, .Name z pz] kt pt] (.Tuple [e1, e2, e3] k2 pt2) pos.line X.env = pure false := by rfl) :
    JS X (.Assign [.Tuple [.Name x px, .Name y py, .Name z pz] kt pt] (.Tuple [e1, e2, e3] k2 pt2) pos) (zPar3 i j l a) := by
  obtain ⟨t, a1, a2⟩ := ha.ex
  refine ⟨_, ps_par3 hc hN hi hj hl hij hil hjl hx hy hz a1 hw hs, fun R N σ' M σ H E S A h => ?_⟩
  refine a2 σ' M σ H _ _ E S (fun ds M1 vs H1 _ S1 s1 r1 q1 => ?_) h
  match ds, vs, r1, q1 with
  | [d, e, f], _, .cons ra (.cons rb (.cons rc .nil)), q1 =>
    refine ⟨_, _, _, rfl, ?_⟩
    have q1' : R.nx (put (put (put σ' i d) j e) l f) M1 := q1
    rw [put_set, put_set, put_set] at q1'
    exact A.nx _ M1 _ H1 ((((E.mono S s1).set i ra).set j rb).set l rc) S1 s1 q1'
/-- extend: by a list -/
def xExt (o a : DE) : DE := fun σ M Q => o σ M fun q M1 => match q with
  | .ptr p => (∃ xs, M1 p = some (.lst xs)) ∧ a σ M1 fun d M2 => ∃ xs ys, M2 p = some (.lst xs) ∧ d = .lst ys ∧ xs.length + ys.length ≤ sizeLine ∧ Q .non (M2.upd p (.lst (xs ++ ys)))
  | _ => False
section
variable {o e : Expr} {eo ea : DE} {apos cpos : Pos}
theorem j_ext (ho : JE X o eo) (ha : JE X e ea) (hse : starEach [e] X.env = (false, eval e X.env) :: starEach [] X.env := by rfl)
    (hbase : attributeBase o "extend" X.env (eval o X.env) = eval o X.env := by rfl)
    (hfew : ((backTo cpos (starEach [e] X.env)).all (fun x => !x.1) && (backToKw cpos (keywordEach [] X.env)).all (fun x => x.1.isSome)
      && decide (([e] : List Expr).length + ([] : List Keyword).length + (if ([] : List Keyword).isEmpty then 0 else 1) < 30)) = true := by rfl)
    (hline : (apos.endLine == cpos.line) = true := by rfl) (hplain : (backTo cpos (starEach [] X.env)).any (·.1) = false := by rfl) : JE X (.Call (.Attribute o "extend" apos) [e] [] cpos) (xExt eo ea) := by
  obtain ⟨t, a1, a2⟩ := ho.ex
  obtain ⟨u, b1, b2⟩ := ha.ex
  refine ⟨_, pe_bm PySem.F.plainAttrs_list PySem.F.slot_list_extend PySem.F.type_list_extend mt_extend a1 (pa_cons b1 pa_nil hse) hbase hfew hline hse hplain, fun σ' M σ H R Q E S A h => ?_⟩
  refine a2 σ' M σ H _ _ E S (fun q M1 v H1 S1 s1 r1 q1 => ?_) h
  cases r1 with
  | ptr p =>
    obtain ⟨⟨xs0, e0⟩, q2⟩ := q1
    obtain ⟨vs0, hv0, _⟩ := S1 p _ e0
    refine ⟨.inl ⟨rfl, vs0, SqL.of hv0⟩, ?_⟩
    refine b2 σ' M1 σ H1 _ _ (E.mono S s1) S1 (fun d M2 w H2 S2 s2 r2 q3 => ?_) q2
    obtain ⟨xs, ys, e, ed, hl, q⟩ := q3
    subst ed
    cases r2 with
    | lst hy ny ry =>
      rename_i b us
      obtain ⟨vs, hv, rv⟩ := S2 p _ e
      have hne : M2 p ≠ none := by rw [e]; exact fun z => nomatch z
      have st : Stp M2 H2 (M2.upd p (.lst (xs ++ ys))) (upd H2 p (.lst (vs ++ us))) := Stp.put (.inl hne)
      exact ⟨p, b, vs, us, rfl, rfl, hv, hy, by rw [rv.length, ry.length]; exact hl, A _ _ _ _ (S2.put (c := .lst (xs ++ ys)) (.inl hne) ⟨_, upd_same, (rv.append ry).mono S2 st⟩) (s1.trans (s2.trans st)) .non q⟩
  | _ => exact (show False from q1).elim
/-- pop(i) -/
def xPopAt (o a : DE) : DE := fun σ M Q => o σ M fun q M1 => match q with
  | .ptr p => (∃ xs, M1 p = some (.lst xs)) ∧ a σ M1 fun d M2 => ∃ xs k y, M2 p = some (.lst xs) ∧ d = .int ((k : Nat) : Int) ∧ xs.length < 2 ^ 62 ∧ xs[k]? = some y ∧ Q y (M2.upd p (.lst (xs.eraseIdx k)))
  | _ => False
theorem seqIx {k n : Nat} (h : k < n) : seqIndex? (k : Int) n = some k := by
  have q : ixN n (k : Int) = some k := by
    unfold ixN
    rw [if_pos (Int.natCast_nonneg k), if_pos (by omega), Int.toNat_natCast]
  exact (ixN_seq q).1
theorem j_popAt (ho : JE X o eo) (ha : JE X e ea) (hse : starEach [e] X.env = (false, eval e X.env) :: starEach [] X.env := by rfl)
    (hbase : attributeBase o "pop" X.env (eval o X.env) = eval o X.env := by rfl)
    (hfew : ((backTo cpos (starEach [e] X.env)).all (fun x => !x.1) && (backToKw cpos (keywordEach [] X.env)).all (fun x => x.1.isSome)
      && decide (([e] : List Expr).length + ([] : List Keyword).length + (if ([] : List Keyword).isEmpty then 0 else 1) < 30)) = true := by rfl)
    (hline : (apos.endLine == cpos.line) = true := by rfl) (hplain : (backTo cpos (starEach [] X.env)).any (·.1) = false := by rfl) : JE X (.Call (.Attribute o "pop" apos) [e] [] cpos) (xPopAt eo ea) := by
  obtain ⟨t, a1, a2⟩ := ho.ex
  obtain ⟨u, b1, b2⟩ := ha.ex
  refine ⟨_, pe_bm PySem.F.plainAttrs_list PySem.F.slot_list_pop PySem.F.type_list_pop mt_popAt a1 (pa_cons b1 pa_nil hse) hbase hfew hline hse hplain, fun σ' M σ H R Q E S A h => ?_⟩
  refine a2 σ' M σ H _ _ E S (fun q M1 v H1 S1 s1 r1 q1 => ?_) h
  cases r1 with
  | ptr p =>
    obtain ⟨⟨xs0, e0⟩, q2⟩ := q1
    obtain ⟨vs0, hv0, _⟩ := S1 p _ e0
    refine ⟨.inl ⟨rfl, vs0, SqL.of hv0⟩, ?_⟩
    refine b2 σ' M1 σ H1 _ _ (E.mono S s1) S1 (fun d M2 w H2 S2 s2 r2 q3 => ?_) q2
    obtain ⟨xs, k, y, e, ed, hz, hy, q⟩ := q3
    subst ed
    cases r2 with
    | int i =>
      obtain ⟨vs, hv, rv⟩ := S2 p _ e
      obtain ⟨u, hu, ru⟩ := rv.get hy
      have hk : k < xs.length := (List.getElem?_eq_some_iff.mp hy).1
      have hne : M2 p ≠ none := by rw [e]; exact fun z => nomatch z
      have st : Stp M2 H2 (M2.upd p (.lst (xs.eraseIdx k))) (upd H2 p (.lst (vs.eraseIdx k))) := Stp.put (.inl hne)
      exact ⟨p, vs, _, k, u, rfl, rfl, hv, by omega, by omega, by rw [rv.length]; exact seqIx hk, hu, A _ _ _ _ (S2.put (c := .lst (xs.eraseIdx k)) (.inl hne) ⟨_, upd_same, (rv.eraseIdx k).mono S2 st⟩) (s1.trans (s2.trans st)) (ru.mono S2 st) q⟩
  | _ => exact (show False from q1).elim
end
/-! ### < of numbers, else of data -/
def oLtX : DR := fun d e M Q => match d, e with
  | .int i, .int j => Q (.bl (decide (i < j))) M
  | _, _ => oLtD d e M Q
theorem jo_ltX (hu : X.A.units + 64 < cLine) : JOp X (compareOp .Lt) oLtX := by
  obtain ⟨r, a1, a2⟩ := (jo_ltD (X := X) hu).ex
  refine ⟨_, op_lt.or a1, fun d e x y M H R Q S rx ry A q => ?_⟩
  by_cases h : ∃ i j, d = .int i ∧ e = .int j
  · obtain ⟨i, j, rfl, rfl⟩ := h
    cases rx
    cases ry
    exact .inl ⟨i, j, rfl, rfl, A _ M _ H S Stp.refl (.bl _) q⟩
  · have q' : oLtD d e M R := by
      cases d <;> cases e <;> first
        | exact q
        | exact absurd ⟨_, _, rfl, rfl⟩ h
    exact .inr (a2 d e x y M H R Q S rx ry A q')
/-! ### isinstance -/
def isiB (t T : String) : Bool := t == T || (t == "bool" && T == "int")
theorem isi_ok : ∀ t ∈ ["NoneType", "bool", "int", "str", "tuple", "list"], ∀ T ∈ ["int", "bool", "tuple", "str", "list"], kitB t T = some (isiB t T) := by decide +kernel
theorem tyD_mem {d : D} {M : Mm} {t : String} (h : tyD d M = some t) : t ∈ ["NoneType", "bool", "int", "str", "tuple", "list"] := by
  cases d with
  | ptr p =>
    unfold tyD at h
    simp only at h
    cases e : M p with
    | none => rw [e] at h; cases h
    | some c =>
      rw [e] at h
      cases c <;> first
        | (cases h; decide)
        | cases h
  | fz _ => cases h
  | _ => cases h; decide
theorem tyD_of {K : PySem.W.Frag} {M : Mm} {H : Hp} {v : V} {d : D} {t : String} (r : Rep K M H v d) (S : Sim K M H) (h : tyD d M = some t) : TyX K H v (.type t) := by
  cases r with
  | non => cases h; exact .base .non
  | bl b => cases h; exact .base (.bl b)
  | int i => cases h; exact .base (.int i)
  | str x => cases h; exact .base (.str x)
  | tup q _ => cases h; exact .base (.tup q)
  | lst q _ _ => cases h; exact .base (.lst q)
  | fz _ _ => cases h
  | ptr p =>
    unfold tyD at h
    simp only at h
    cases e : M p with
    | none => rw [e] at h; cases h
    | some c =>
      rw [e] at h
      cases c with
      | lst xs =>
        cases h
        obtain ⟨vs, hv, _⟩ := S p _ e
        exact .base (.lst hv)
      | _ => cases h
def xIsi (a : DE) (T : String) : DE := fun σ M Q => a σ M fun d M1 => ∃ t, tyD d M1 = some t ∧ Q (.bl (isiB t T)) M1
theorem j_isi {e : Expr} {a : DE} {T : String} {x : Str} {pi pT pos : Pos} (hg : Gl X "isinstance") (hm : X.mg "isinstance" = none) (hgT : Gl X x) (hmT : X.mg x = none) (hv : bootBuiltins x = some (.type T)) (ha : JE X e a)
    (hT : T ∈ ["int", "bool", "tuple", "str", "list"] := by decide) (hn : x ≠ "__name__" := by decide) (hdb : (x == ("__debug__" : Str)) = false := by decide)
    (he : starEach [e, .Name x pT] X.env = (false, eval e X.env) :: starEach [.Name x pT] X.env := by rfl) (he2 : starEach [.Name x pT] X.env = (false, eval (.Name x pT) X.env) :: starEach [] X.env := by rfl)
    (hpl : (backTo pos (starEach [.Name x pT] X.env)).any (·.1) = false := by rfl) : JE X (.Call (.Name "isinstance" pi) [e, .Name x pT] [] pos) (xIsi a T) := by
  obtain ⟨t, a1, a2⟩ := ha.ex
  refine ⟨_, pe_callB call_isi hg hm bt_isinstance (pa_cons a1 (pa_cons (pe_bltn (v := .ty T) hgT hmT hv rfl hn hdb) pa_nil he2) he) (by decide) (by decide) he hpl, fun σ' M σ H R Q E S A h => ?_⟩
  refine a2 σ' M σ H _ _ E S (fun d M1 v H1 S1 s1 r1 q1 => ?_) h
  obtain ⟨ty, h1, q⟩ := q1
  exact ⟨v, .ty T, .type ty, .type T, isiB ty T, rfl, .ty T, tyD_of r1 S1 h1, kit_ty (isi_ok _ (tyD_mem h1) _ hT), A _ M1 _ H1 S1 s1 (.bl _) q⟩

/-! ### max, min of numbers in a list or a tuple -/
def kMax : D → Mm → DK → Prop := fun d M Q => ∃ (n : Int) (ns : List Int), seqD d M = some ((n :: ns).map D.int) ∧ Q (.int (ns.foldl max n)) M
def kMin : D → Mm → DK → Prop := fun d M Q => ∃ (n : Int) (ns : List Int), seqD d M = some ((n :: ns).map D.int) ∧ Q (.int (ns.foldl min n)) M
theorem reads_ints {h : Heap} : ∀ {us : List Value} {ns : List Int}, Vals (ns.map V.int) us → ReadsAll h us (ns.map PyData.int) []
  | _, [], .nil => .nil
  | _, n :: ns, .cons r t => by
    obtain ⟨tk, rfl⟩ := r
    exact .cons (.int n tk) (reads_ints t)
theorem alike_ints (ns : List Int) : PySem.W.AlikeAll (ns.map PyData.int) := ⟨fun x hx y hy => by
  obtain ⟨i, _, rfl⟩ := List.mem_map.mp hx
  obtain ⟨j, _, rfl⟩ := List.mem_map.mp hy
  rfl, fun x hx => by
  obtain ⟨i, _, rfl⟩ := List.mem_map.mp hx
  exact fun z => nomatch z⟩
theorem reads_int {h : Heap} {v : Value} {i : Int} {as : List Addr} (r : Reads h v (.int i) as) : ∃ t, v = .int i t := by
  cases r
  exact ⟨_, rfl⟩
theorem jc_max (hc : X.calm = true) (hu : X.A.units + 65 < cLine) : JC X (.builtin "max") (c1 kMax) := by
  refine ⟨fun vs H Q => ∃ a xs, ∃ (n : Int) (ns : List Int), vs = [.ref a] ∧ (SqL X.K H a xs ∨ SqT X.K H a xs) ∧ xs = (n :: ns).map V.int ∧ Q (.int (ns.foldl max n)) H, ?_, re_c1 fun d v M H R Q S r A q => ?_⟩
  · intro pins s σ H vs us Q I rv h
    obtain ⟨a, xs, n, ns, rfl, hq, rfl, q⟩ := h
    obtain ⟨u, rfl, ru⟩ := vals1 rv
    cases ru
    have hu2 : X.A.units + 1 + PyData.depthAll (.int n :: ns.map PyData.int) < cLine := by
      have e := PySem.W.depth_ints (n :: ns)
      rw [List.map_cons] at e
      rw [e]
      omega
    have fin : ∀ (v : Value) (h' : Heap) (tk : Nat) (bs : List Addr), Reads h' v (PySem.W.maxD (.int n) (ns.map PyData.int)) bs → (∀ b o, s.heap.get? b = some o → h'.get? b = some o) → EP X pins σ Q v { s with heap := h', toks := tk } := by
      intro v h' tk bs rd k
      rw [PySem.W.maxD_ints] at rd
      obtain ⟨t, rfl⟩ := reads_int rd
      exact ⟨.int _, H, I.kept (t' := tk) k, ⟨t, rfl⟩, q⟩
    rcases hq with hq | hq
    · obtain ⟨its, r2, pl, _⟩ := I.list hq
      exact PySem.W.max_list_data (I.ok.hd hc) pl.isList (reads_ints (ns := n :: ns) r2) (alike_ints (n :: ns)) hu2 fun i v h' tk bs _ rd k => fin v h' tk bs rd k
    · obtain ⟨its, r2, pl, _⟩ := I.tuple hq
      exact PySem.W.max_tuple_data (I.ok.hd hc) pl (reads_ints (ns := n :: ns) r2) (alike_ints (n :: ns)) hu2 fun i v h' tk bs _ rd k => fin v h' tk bs rd k
  · obtain ⟨n, ns, h, q⟩ := q
    obtain ⟨a, vs, rfl, hq, ra⟩ := r.seq S h
    exact ⟨a, vs, n, ns, rfl, hq, ra.ints, A _ M _ H S Stp.refl (.int _) q⟩
theorem jc_min (hc : X.calm = true) (hu : X.A.units + 65 < cLine) : JC X (.builtin "min") (c1 kMin) := by
  refine ⟨fun vs H Q => ∃ a xs, ∃ (n : Int) (ns : List Int), vs = [.ref a] ∧ (SqL X.K H a xs ∨ SqT X.K H a xs) ∧ xs = (n :: ns).map V.int ∧ Q (.int (ns.foldl min n)) H, ?_, re_c1 fun d v M H R Q S r A q => ?_⟩
  · intro pins s σ H vs us Q I rv h
    obtain ⟨a, xs, n, ns, rfl, hq, rfl, q⟩ := h
    obtain ⟨u, rfl, ru⟩ := vals1 rv
    cases ru
    have hu2 : X.A.units + 1 + PyData.depthAll (.int n :: ns.map PyData.int) < cLine := by
      have e := PySem.W.depth_ints (n :: ns)
      rw [List.map_cons] at e
      rw [e]
      omega
    have fin : ∀ (v : Value) (h' : Heap) (tk : Nat) (bs : List Addr), Reads h' v (PySem.W.minD (.int n) (ns.map PyData.int)) bs → (∀ b o, s.heap.get? b = some o → h'.get? b = some o) → EP X pins σ Q v { s with heap := h', toks := tk } := by
      intro v h' tk bs rd k
      rw [PySem.W.minD_ints] at rd
      obtain ⟨t, rfl⟩ := reads_int rd
      exact ⟨.int _, H, I.kept (t' := tk) k, ⟨t, rfl⟩, q⟩
    rcases hq with hq | hq
    · obtain ⟨its, r2, pl, _⟩ := I.list hq
      exact PySem.W.min_list_data (I.ok.hd hc) pl.isList (reads_ints (ns := n :: ns) r2) (alike_ints (n :: ns)) hu2 fun i v h' tk bs _ rd k => fin v h' tk bs rd k
    · obtain ⟨its, r2, pl, _⟩ := I.tuple hq
      exact PySem.W.min_tuple_data (I.ok.hd hc) pl (reads_ints (ns := n :: ns) r2) (alike_ints (n :: ns)) hu2 fun i v h' tk bs _ rd k => fin v h' tk bs rd k
  · obtain ⟨n, ns, h, q⟩ := q
    obtain ⟨a, vs, rfl, hq, ra⟩ := r.seq S h
    exact ⟨a, vs, n, ns, rfl, hq, ra.ints, A _ M _ H S Stp.refl (.int _) q⟩
/-! ### dicts -/
/-- {} -/
def xDict : DE := fun _ M Q => ∀ p, M p = none → Q (.ptr p) (M.upd p (.dK []))
theorem j_dict {pos : Pos} : JE X (.Dict [] [] pos) xDict := ⟨_, pe_dnewK, fun σ' M σ H R Q E S A h p n =>
  A _ _ _ _ (S.put (c := .dK []) (.inr n) ⟨[], upd_same, rfl, .nil⟩) (Stp.put (.inr n)) (.ptr p) (h p (S.free n))⟩
def keyD : D → Option Key
  | .int i => some (.inl i)
  | .str x => some (.inr x)
  | _ => none
def valD {κ : Type} [DecidableEq κ] (kvs : List (κ × D)) (k : κ) : Option D := (kvs.find? fun kv => decide (kv.1 = k)).map (·.2)
def putD {κ : Type} [DecidableEq κ] (kvs : List (κ × D)) (k : κ) (v : D) : List (κ × D) :=
  if (kvs.any fun kv => decide (kv.1 = k)) = true then kvs.map (fun kv => if kv.1 = k then (kv.1, v) else kv) else kvs ++ [(k, v)]
theorem val_rep {κ : Type} [DecidableEq κ] {K : PySem.W.Frag} {M : Mm} {H : Hp} : ∀ {ys : List (κ × V)} {kvs : List (κ × D)} (k : κ), ys.map (·.1) = kvs.map (·.1) → RepA K M H (ys.map (·.2)) (kvs.map (·.2)) →
    (∀ d, valD kvs k = some d → ∃ v, valV ys k = some v ∧ Rep K M H v d) ∧ (valD kvs k = none → valV ys k = none)
  | [], [], k, _, _ => ⟨fun d h => (by cases h), fun _ => rfl⟩
  | [], _ :: _, k, h, _ => by simp at h
  | _ :: _, [], k, h, _ => by simp at h
  | y :: ys, kv :: kvs, k, h, r => by
    rw [List.map_cons, List.map_cons] at h r
    obtain ⟨h1, h2⟩ := List.cons.inj h
    cases r with
    | cons r1 r2 =>
      obtain ⟨i1, i2⟩ := val_rep k h2 r2
      unfold valD valV
      rw [List.find?_cons, List.find?_cons, h1]
      by_cases e : kv.1 = k
      · rw [decide_eq_true e]
        exact ⟨fun d hd => by cases hd; exact ⟨_, rfl, r1⟩, fun hd => by cases hd⟩
      · rw [decide_eq_false e]
        exact ⟨i1, i2⟩
theorem put_rep {κ : Type} [DecidableEq κ] {K : PySem.W.Frag} {M : Mm} {H : Hp} {ys : List (κ × V)} {kvs : List (κ × D)} {k : κ} {v : V} {d : D} (h : ys.map (·.1) = kvs.map (·.1)) (r : RepA K M H (ys.map (·.2)) (kvs.map (·.2))) (rv : Rep K M H v d) :
    (putK ys k v).map (·.1) = (putD kvs k d).map (·.1) ∧ RepA K M H ((putK ys k v).map (·.2)) ((putD kvs k d).map (·.2)) := by
  have ha : (ys.any fun kv => decide (kv.1 = k)) = kvs.any fun kv => decide (kv.1 = k) := by
    have e1 : (ys.any fun kv => decide (kv.1 = k)) = (ys.map (·.1)).any fun z => decide (z = k) := by rw [List.any_map]; rfl
    have e2 : (kvs.any fun kv => decide (kv.1 = k)) = (kvs.map (·.1)).any fun z => decide (z = k) := by rw [List.any_map]; rfl
    rw [e1, e2, h]
  unfold putK putD
  rw [ha]
  by_cases c : (kvs.any fun kv => decide (kv.1 = k)) = true
  · rw [if_pos c, if_pos c]
    clear c ha
    induction ys generalizing kvs with
    | nil =>
      cases kvs with
      | nil => exact ⟨rfl, .nil⟩
      | cons _ _ => simp at h
    | cons y ys ih =>
      cases kvs with
      | nil => simp at h
      | cons kv kvs =>
        rw [List.map_cons, List.map_cons] at h r
        obtain ⟨h1, h2⟩ := List.cons.inj h
        cases r with
        | cons r1 r2 =>
          obtain ⟨i1, i2⟩ := ih h2 r2
          simp only [List.map_cons]
          by_cases e : kv.1 = k
          · have e' : y.1 = k := h1.trans e
            rw [if_pos e, if_pos e']
            exact ⟨by rw [i1, h1], .cons rv i2⟩
          · have e' : ¬ y.1 = k := fun z => e (h1.symm.trans z)
            rw [if_neg e, if_neg e']
            exact ⟨by rw [i1, h1], .cons r1 i2⟩
  · rw [if_neg c, if_neg c, List.map_append, List.map_append, List.map_append, List.map_append, h]
    exact ⟨rfl, r.append (.cons rv .nil)⟩
theorem len_keys {κ : Type} {ys : List (κ × V)} {kvs : List (κ × D)} (h : ys.map (·.1) = kvs.map (·.1)) : ys.length = kvs.length := by
  have := congrArg List.length h
  rw [List.length_map, List.length_map] at this
  exact this
def isD (d : D) (M : Mm) : Prop := ∃ p kvs, d = .ptr p ∧ M p = some (.dK kvs)
/-- d.setdefault(k, e) -/
def xSetD (o a b : DE) : DE := fun σ M Q => o σ M fun q M1 => isD q M1 ∧ a σ M1 fun y M2 => b σ M2 fun z M3 => ∃ p kvs k, q = .ptr p ∧ M3 p = some (.dK kvs) ∧ keyD y = some k ∧ kvs.length < sizeLine ∧
  match valD kvs k with
  | some d => Q d M3
  | none => Q z (M3.upd p (.dK (putD kvs k z)))
theorem key_rep {K : PySem.W.Frag} {M : Mm} {H : Hp} {v : V} {d : D} {k : Key} (r : Rep K M H v d) (h : keyD d = some k) : v = kV k := by
  cases r with
  | int i => cases h; rfl
  | str x => cases h; rfl
  | _ => cases h
theorem j_setd {o e f : Expr} {eo ea eb : DE} {apos cpos : Pos} (ho : JE X o eo) (ha : JE X e ea) (hb : JE X f eb) (m : M2 X o "setdefault" apos e f cpos) : JE X (.Call (.Attribute o "setdefault" apos) [e, f] [] cpos) (xSetD eo ea eb) := by
  obtain ⟨t, a1, a2⟩ := ho.ex
  obtain ⟨u, b1, b2⟩ := ha.ex
  obtain ⟨w, c1, c2⟩ := hb.ex
  refine ⟨_, pe_dsetd a1 b1 c1 m, fun σ' M σ H R Q E S A h => ?_⟩
  refine a2 σ' M σ H _ _ E S (fun q M1 v H1 S1 s1 r1 q1 => ?_) h
  obtain ⟨⟨p0, kvs0, e0, m0⟩, q2⟩ := q1
  subst e0
  cases r1 with
  | ptr _ =>
    obtain ⟨ys0, h0, _, _⟩ := S1 p0 _ m0
    refine ⟨p0, rfl, .inl ⟨ys0, .inl h0⟩, ?_⟩
    refine b2 σ' M1 σ H1 _ _ (E.mono S s1) S1 (fun y M2 vy H2 S2 s2 r2 q3 => ?_) q2
    refine c2 σ' M2 σ H2 _ _ (E.mono S (s1.trans s2)) S2 (fun z M3 vz H3 S3 s3 r3 q4 => ?_) q3
    obtain ⟨p, kvs, k, ep, mp, hk, hl, q5⟩ := q4
    cases ep
    obtain ⟨ys, hy, hks, hr⟩ := S3 p0 _ mp
    have s13 := s1.trans (s2.trans s3)
    obtain ⟨i1, i2⟩ := val_rep k hks hr
    refine ⟨ys, k, hy, key_rep r2 hk, by rw [len_keys hks]; exact hl, fun v hv => ?_, fun hv => ?_⟩
    · cases e : valD kvs k with
      | none => rw [i2 e] at hv; cases hv
      | some d =>
        rw [e] at q5
        obtain ⟨v2, hv2, rv2⟩ := i1 d e
        rw [hv] at hv2
        cases hv2
        exact A _ M3 _ H3 S3 s13 rv2 q5
    · cases e : valD kvs k with
      | some d =>
        obtain ⟨v2, hv2, _⟩ := i1 d e
        rw [hv] at hv2
        cases hv2
      | none =>
        rw [e] at q5
        have hne : M3 p0 ≠ none := by rw [mp]; exact fun z => nomatch z
        have st : Stp M3 H3 (M3.upd p0 (.dK (putD kvs k z))) (upd H3 p0 (.dK (putK ys k vz))) := Stp.put (.inl hne)
        obtain ⟨j1, j2⟩ := put_rep (k := k) hks hr r3
        exact A _ _ _ _ (S3.put (c := .dK (putD kvs k z)) (.inl hne) ⟨_, upd_same, j1, j2.mono S3 st⟩) (s13.trans st) (r3.mono S3 st) q5
/-- d[k] of a dict with int and text keys, or with tuple keys -/
def xGet (o a : DE) : DE := fun σ M Q => o σ M fun q M1 => a σ M1 fun y M2 => ∃ p, q = .ptr p ∧ match M2 p with
  | some (.dK kvs) => ∃ k d, keyD y = some k ∧ valD kvs k = some d ∧ Q d M2
  | some (.dT kvs) => ∃ ks k d, y = .tup ks ∧ ks.map keyD = k.map some ∧ valD kvs k = some d ∧ Q d M2
  | _ => False
theorem keys_rep {K : PySem.W.Frag} {M : Mm} {H : Hp} : ∀ {vs : List V} {ds : List D} {k : List Key}, RepA K M H vs ds → ds.map keyD = k.map some → vs = k.map kV
  | _, [], [], .nil, _ => rfl
  | _, [], _ :: _, _, h => by simp at h
  | _, _ :: _, [], _, h => by simp at h
  | _, d :: ds, k :: ks, .cons r q, h => by
    rw [List.map_cons, List.map_cons] at h
    obtain ⟨h1, h2⟩ := List.cons.inj h
    rw [key_rep r h1, keys_rep q h2]
    rfl
theorem j_get {o e : Expr} {eo ea : DE} {pos : Pos} (hu : X.A.units + 1 < cLine) (ho : JE X o eo) (ha : JE X e ea) (hs : NoSl e := by exact fun _ _ => rfl) : JE X (.Subscript o e pos) (xGet eo ea) := by
  obtain ⟨t, a1, a2⟩ := ho.ex
  obtain ⟨u, b1, b2⟩ := ha.ex
  refine ⟨_, pe_dget hu a1 b1 hs, fun σ' M σ H R Q E S A h => ?_⟩
  refine a2 σ' M σ H _ _ E S (fun q M1 v H1 S1 s1 r1 q1 => ?_) h
  refine b2 σ' M1 σ H1 _ _ (E.mono S s1) S1 (fun y M2 vy H2 S2 s2 r2 q2 => ?_) q1
  obtain ⟨p, ep, q3⟩ := q2
  subst ep
  cases r1 with
  | ptr _ =>
    cases em : M2 p with
    | none => rw [em] at q3; exact (show False from q3).elim
    | some c =>
      rw [em] at q3
      cases c with
      | lst _ => exact (show False from q3).elim
      | dK kvs =>
        obtain ⟨k, d, hk, hd, q4⟩ := q3
        obtain ⟨ys, hy, hks, hr⟩ := S2 p _ em
        obtain ⟨v2, hv2, rv2⟩ := (val_rep k hks hr).1 d hd
        rw [key_rep r2 hk]
        exact ⟨p, v2, rfl, .inl ⟨ys, k, .inl hy, rfl, hv2.symm⟩, A _ M2 _ H2 S2 (s1.trans s2) rv2 q4⟩
      | dT kvs =>
        obtain ⟨ks, k, d, ey, hk, hd, q4⟩ := q3
        subst ey
        obtain ⟨ys, hy, hks, hr⟩ := S2 p _ em
        obtain ⟨v2, hv2, rv2⟩ := (val_rep k hks hr).1 d hd
        cases r2 with
        | tup hb rb =>
          rename_i b bs
          have eb := keys_rep rb hk
          subst eb
          exact ⟨p, v2, rfl, .inr ⟨ys, k, b, .inl hy, rfl, hb, hv2.symm⟩, A _ M2 _ H2 S2 (s1.trans s2) rv2 q4⟩
end
end DL

set_option Elab.async false
set_option linter.all false
set_option maxRecDepth 100000
set_option maxHeartbeats 4000000
/-! The data layer, part h: turned tuples, enumerate, dicts with tuple keys, repr. -/
namespace DL
open PySem PySem.Spec L2 PyProof.Rows HT

/-! ### t[::-1] of a tuple -/
section
variable {prog : Program} {w : World} {A : Around} {E : Value → Shared → Prop} {s : Shared}
theorem turnedPlaces (n : Nat) : Builtin.Slice.slicePlaces ((n : Int) - 1) (-1) (-1) = n := by
  unfold Builtin.Slice.slicePlaces
  rw [if_neg (by omega)]
  have e : (- -1 : Int) = 1 := by decide
  rw [e, Int.ediv_one]
  split <;> omega
theorem sliceTurned {sl : Addr} {n : Nat} {t : Tok} {Q : Int × Int × Nat → Shared → Prop} (hs : s.heap.IsSliceOf sl .none .none (.int (-1) t)) (h : Q ((n : Int) - 1, -1, n) s) :
    wpAny (model prog w) A (Builtin.Slice.sliceApplied (.ref sl) (pure (n : Int))) Q E s := by
  obtain ⟨os, look, hcs, dat⟩ := hs
  unfold Builtin.Slice.sliceApplied Builtin.Slice.sliceFields
  refine wpAny_bind (wpAny_bind (wpAny_field look dat (x := .none) rfl ?_))
  refine wpAny_bind (wpAny_field look dat (x := .none) rfl ?_)
  refine wpAny_bind (wpAny_field look dat (x := .int (-1) t) rfl (wpAny_pure ?_))
  refine wpAny_bind (slicePart_int ?_)
  show wpAny _ _ (if ((-1 : Int) == 0) = true then _ else _) _ _ s
  rw [if_neg (by decide)]
  refine wpAny_bind (slicePart_none ?_)
  refine wpAny_bind (slicePart_none ?_)
  refine wpAny_bind (wpAny_pure ?_)
  show wpAny _ _ (pure ((n : Int) - 1, (-1 : Int), Builtin.Slice.slicePlaces ((n : Int) - 1) (-1) (-1))) _ _ s
  rw [turnedPlaces]
  exact wpAny_pure h
theorem fm_congr {α β : Type} {f g : α → Option β} : ∀ {l : List α}, (∀ x ∈ l, f x = g x) → l.filterMap f = l.filterMap g
  | [], _ => rfl
  | x :: l, h => by
    rw [List.filterMap_cons, List.filterMap_cons, h x List.mem_cons_self, fm_congr fun y hy => h y (List.mem_cons_of_mem _ hy)]
theorem pickTurned (xs : Array Value) : ((List.range xs.size).filterMap fun (m : Nat) => xs[(((xs.size : Int) - 1) + (m : Int) * (-1)).toNat]?).toArray = xs.toList.reverse.toArray := by
  have e1 : ((List.range xs.size).map fun k => xs.size - 1 - k).filterMap (xs[·]?) = xs.toList.reverse := by
    rw [PySem.W.krv_range, List.filterMap_reverse, PySem.W.krv_all]
  rw [← e1, List.filterMap_map]
  congr 1
  refine fm_congr fun m hm => ?_
  have lt := List.mem_range.mp hm
  have e : (((xs.size : Int) - 1) + (m : Int) * (-1)).toNat = xs.size - 1 - m := by omega
  rw [e]
  rfl
theorem getItem_turned {t sl : Addr} {items : Array Value} {tk : Tok} {Q : Value → Shared → Prop} (ht : IsTup s.heap t items) (hs : s.heap.IsSliceOf sl .none .none (.int (-1) tk))
    (h : Q (.ref s.heap.objs.size) { s with heap := s.heap.push { cls := .type "tuple", data := .seq items.toList.reverse.toArray } }) (hsz : items.size ≤ sizeLine) :
    wpAny (model prog w) A (getItem (.ref t) (.ref sl)) Q E s := by
  have fits : sizeOk (.seq items.toList.reverse.toArray) := by
    show items.toList.reverse.toArray.size ≤ sizeLine
    rw [List.size_toArray, List.length_reverse, Array.length_toList]
    exact hsz
  have isS : s.TypeIs (.ref sl) "slice" := let ⟨os, a, b, _⟩ := hs; ⟨os, a, b⟩
  unfold getItem
  try with_reducible refine wpAny_holding ?_
  first | refine wpAny_bind (wpAny_pure ?_) | skip
  refine wpAny_bind (wpAny_sequenceKey ht.typeIs (by decide) ?_)
  refine wpAny_bind (wpAny_callSpecial?_slot (name := Str.ofString "__getitem__") ht.typeIs PyProof.Rows.slot_tuple_getitem ?_)
  refine wpAny_call_entry PyProof.Rows.slot_tuple_getitem ht.typeIs entry_tuple_getitem ?_ (args_tuple_getitem _ _)
  show wpAny _ _ (Builtin.Tuple.tupleItemsOf (.ref t) >>= _) _ _ s
  refine wpAny_bind (tupleItemsOf_ ht ?_)
  refine wpAny_bind (wpAny_typeOf isS ?_)
  rw [if_pos (by decide)]
  refine wpAny_bind (sliceTurned hs ?_)
  have hno : ¬ ((((items.size : Int) - 1) == 0 && (-1 : Int) == 1 && items.size == items.size) = true) := by
    intro q
    rw [Bool.and_eq_true, Bool.and_eq_true] at q
    exact absurd q.1.2 (by decide)
  show wpAny _ _ (if (((items.size : Int) - 1) == 0 && (-1 : Int) == 1 && items.size == items.size) = true then _ else _) _ _ s
  rw [if_neg hno, pickTurned]
  first
    | exact wpAny_bind (m := Builtin.Tuple.tupleExact _) (wpAny_newObj_type (wpAny_pure ⟨_, rfl, wpAny_pure h⟩) fits)
    | exact wpAny_bind (m := Builtin.Tuple.tupleExact _) (wpAny_newObj_type (wpAny_bind (wpAny_pure (wpAny_pure ⟨_, rfl, wpAny_pure h⟩))) fits)
    | exact wpAny_bind (wpAny_bind (m := Builtin.Tuple.tupleExact _) (wpAny_newObj_type (wpAny_pure (wpAny_pure ⟨_, rfl, wpAny_pure h⟩)) fits))
    | exact wpAny_bind (wpAny_bind (m := Builtin.Tuple.tupleExact _) (wpAny_newObj_type (wpAny_pure ⟨_, rfl, wpAny_pure h⟩) fits))
end
section
variable {X : Cx}
def tRevT (K : PySem.W.Frag) (te : TE) : TE := fun σ H Q => te σ H fun x H1 => ∃ a xs, x = .ref a ∧ SqT K H1 a xs ∧ ∀ p, H1 p = none → Q (.ref p) (upd H1 p (.tup xs.reverse))
theorem pe_revT {e : Expr} {te : TE} {k : Nat} {p1 p2 p3 pos : Pos} (he : PE X e te) : PE X (.Subscript e (.Slice none none (some (.UnaryOp .USub (.Constant (.int 1) k p1) p2)) p3) pos) (tRevT X.K te) := by
  constructor
  intro pins s σ H Q I h
  refine Subscript_ (thn (he.run pins s σ H _ I h) ?_)
  rintro v s1 ⟨x, H1, I1, r1, a, xs, rfl, hx, q⟩
  cases r1
  have part : PO X (some (.UnaryOp .USub (.Constant (.int 1) k p1) p2)) (tPart (tUn (rU fun i => .int (-i)) (tC (.int 1)))) := po_some (pe_un un_neg pe_int)
  refine wpAny_Slice (thn (po_none.run pins s1 σ H1 (fun o H2 => o = none ∧ H2 = H1) I1 ⟨rfl, rfl⟩) ?_)
  rintro vl s2 ⟨_, _, I2, pl, rfl, rfl⟩
  refine thn (po_none.run pins s2 σ _ (fun o H3 => o = none ∧ H3 = _) I2 ⟨rfl, rfl⟩) ?_
  rintro vu s3 ⟨_, _, I3, pu, rfl, rfl⟩
  refine thn (part.run pins s3 σ _ (fun o H4 => o = some (-1) ∧ H4 = _) I3 ⟨1, rfl, -1, rfl, rfl, rfl⟩) ?_
  rintro vs s4 ⟨_, H4, I4, ps, rfl, rfl⟩
  cases pl
  cases pu
  cases ps with
  | int _ tk =>
  have I5 : Inv X pins σ H4 { s4 with heap := s4.heap.push { cls := .type "slice", data := .fields #[.none, .none, .int (-1) tk] } } := I4.kept (t' := s4.toks) fun b ob q => Heap.get?_push_of_some _ q
  obtain ⟨its, r, ht, hz⟩ := I5.tuple hx
  have hlen := r.length
  show wpAny (model X.prog X.w) X.A (subscriptTail e (.Slice none none (some (.UnaryOp .USub (.Constant (.int 1) k p1) p2)) p3) (.ref a) (.ref s4.heap.objs.size)) (EP X pins σ Q) X.xe _
  refine tail_any (ops := [.ref a, .ref s4.heap.objs.size]) ht.typeIs PyProof.Rows.slot_tuple_getitem.lookup ?_ (by with_unfolding_all rfl)
  refine getItem_turned ht (Heap.IsSliceOf.new _ .none .none (.int (-1) tk)) ?_ (by rw [List.size_toArray]; omega)
  refine ⟨.ref _, _, I5.laid (t' := s4.toks) (o := .tup xs.reverse) (fun b ob q => Heap.get?_push_of_some _ q) (Nat.le_refl _) ?_, rfl, q _ (I5.hok.fresh (Nat.le_refl _))⟩
  exact ⟨by rw [List.length_reverse]; exact hz, _, r.reverse, ⟨_, Heap.get?_push_size _ rfl, rfl, _, rfl⟩⟩
def xRev (a : DE) : DE := fun σ M Q => a σ M fun d M1 => match d with
  | .tup xs => Q (.tup xs.reverse) M1
  | _ => False
theorem j_rev {e : Expr} {ea : DE} {k : Nat} {p1 p2 p3 pos : Pos} (ha : JE X e ea) : JE X (.Subscript e (.Slice none none (some (.UnaryOp .USub (.Constant (.int 1) k p1) p2)) p3) pos) (xRev ea) := by
  obtain ⟨t, a1, a2⟩ := ha.ex
  refine ⟨_, pe_revT a1, fun σ' M σ H R Q E S A h => ?_⟩
  refine a2 σ' M σ H _ _ E S (fun d M1 v H1 S1 s1 r1 q1 => ?_) h
  cases r1 with
  | tup q r => exact ⟨_, _, rfl, SqT.of q, fun p n => (A.from s1).tup S1 r.reverse q1 n⟩
  | _ => exact (show False from q1).elim
end

/-! ### enumerate of a tuple -/
def IteT (K : PySem.W.Frag) (a : Addr) : It where
  go := fun i H => ∃ (ys : List V) (y : V), SqT K H a ys ∧ ys[i]? = some y
  yld := fun i H v H' => ∃ T y, v = .ref T ∧ H T = none ∧ H' = upd H T (.tup [.int (i : Nat), y]) ∧ ∀ ys, SqT K H a ys → ys[i]? = some y
  stop := fun i H => ∃ ys : List V, SqT K H a ys ∧ ys.length ≤ i
theorem turn_enumT {P : Program} {w : World} {K : PySem.W.Frag} {elts : List Expr} {kk : Nat} {tpos : Pos} (a e it : Addr) (hea : e ≠ a) (hia : it ≠ a) :
    Turn P w K (.Tuple elts kk tpos) (IteT K a) [e, it] e (fun i h => (∃ old, IsEnum h e it ((i : Nat) : Int) old) ∧ h.IsTupleIter it a i ∧ e ≠ it) where
  mem := List.mem_cons_self
  obj := by
    rintro i h ⟨⟨old, he⟩, ⟨o, ho, hc, hd⟩, _⟩ b hb
    rcases List.mem_cons.mp hb with z | z
    · subst z
      exact ⟨_, he, fun v q => by cases q⟩
    · rw [List.mem_singleton.mp z]
      exact ⟨o, ho, fun v q => by rw [hd] at q; cases q⟩
  keep := by
    rintro i h h' ⟨⟨old, he⟩, hi, hne⟩ k
    exact ⟨⟨old, k e (List.mem_cons_self) _ he⟩, hi.at fun o q => k it (by simp) o q, hne⟩
  item := by
    intro X hP hw hK hc i pins s σ H E I hf st hg
    cases hP
    cases hw
    cases hK
    obtain ⟨⟨old, he⟩, hit, hne⟩ := st
    obtain ⟨ys, y, hq, hy⟩ := hg
    obtain ⟨its, rv, p, hz⟩ := I.tuple hq
    obtain ⟨u, hu, ru⟩ := rv.get hy
    have le : e < s.heap.objs.size := Heap.lt_size he
    have li : it < s.heap.objs.size := let ⟨_, q, _⟩ := hit; Heap.lt_size q
    have ilt : i < its.toArray.size := (Array.getElem?_eq_some_iff.mp (show its.toArray[i]? = some u by simpa using hu)).1
    refine wpAny_pyNext_enum_itemD (Draws.tuple (prog := X.prog) (w := X.w) (A := X.A.in1) (I.ok.hd hc) it a (Ne.symm hia) its.toArray) he ⟨hit, p⟩ ilt hne (by simp [hne, hea]) fun x h' tk px ho st' hT hsz hk => ?_
    have ex : x = u := by
      have px' : its.toArray[i]? = some x := px
      rw [show its.toArray[i]? = some u by simpa using hu] at px'
      cases px'
      rfl
    subst ex
    refine ⟨_, rfl, wpAny_letOwnedTupleGo_enum (s := { s with heap := h', toks := tk + 1 }) ho fun h'' he' sb => ?_⟩
    have hT2 : h''.get? s.heap.objs.size = some { cls := .type "tuple", data := .seq #[.int i tk, x] } := (sb.2 _ (Nat.ne_of_gt le)).trans hT
    have new : ObjOk X.prog X.w (upd H s.heap.objs.size (.tup [.int (i : Nat), y])) h'' s.heap.objs.size (.tup [.int (i : Nat), y]) :=
      ⟨by show 2 ≤ sizeLine; decide, [.int i tk, x], .cons ⟨_, rfl⟩ (.cons ru .nil), ⟨_, hT2, rfl, _, rfl⟩⟩
    have I1 : Inv X pins σ (upd H s.heap.objs.size (.tup [.int (i : Nat), y])) { s with heap := h'', toks := tk + 1 } := by
      refine I.turnedNew (ch := [e, it]) (fun b ob hb q => ?_) hf (Nat.le_refl _) new
      exact (sb.2 b (fun z => hb (by simp [z]))).trans (hk b ob (fun z => hb (by simp [z])) (fun z => hb (by simp [z])) q)
    refine ⟨.ref s.heap.objs.size, _, I1, rfl, ⟨_, y, rfl, I.hok.fresh (Nat.le_refl _), rfl, fun zs hzs => ?_⟩, ⟨⟨x, ?_⟩, st'.1.at fun o q => (sb.2 it (Ne.symm hne)).trans q, hne⟩, fun b hb => ?_⟩
    · rw [I.tuple_inj hzs hq]
      exact hy
    · have e1 : ((i + 1 : Nat) : Int) = (i : Int) + 1 := by omega
      rw [e1]
      exact he'
    · have hb' : b < s.heap.objs.size := by
        rcases List.mem_cons.mp hb with z | z
        · rw [z]; exact le
        · rw [List.mem_singleton.mp z]; exact li
      rw [upd_ne (Nat.ne_of_lt hb')]
      exact (hf b hb).1
  done := by
    intro X hP hw hK hc i pins s σ H E I hf st hg
    cases hP
    cases hw
    cases hK
    obtain ⟨⟨old, he⟩, hit, hne⟩ := st
    obtain ⟨ys, hq, hx⟩ := hg
    obtain ⟨its, rv, p, hz⟩ := I.tuple hq
    have hsz := rv.length
    have T : s.TypeIs (.ref e) "enumerate" := ⟨_, he, rfl⟩
    unfold pyNext
    refine wpAny_bind (wpAny_attempt (wpAny_callSpecial?_slot (name := Str.ofString "__next__") T F.slot_enumerate_next ?_))
    refine wpAny_call_entry F.slot_enumerate_next T F.entry_enumerate_next ?_ (F.args_enumerate_next_1 _)
    show wpAny _ _ (field (.ref e) 2 >>= _) _ _ _
    refine wpAny_bind (wpAny_field he rfl (x := .ref it) rfl ?_)
    refine wpAny_bind (wpAny_nextOf_tuple_end (I.ok.hd hc) hit (show s.heap.IsTuple a its.toArray from p) (by simp; omega) fun h' x he' hx' => ?_)
    obtain ⟨o, ho, hcl⟩ := hx'
    refine wpAny_bind (wpAny_isInstance (T := "StopIteration") (b := true) ⟨o, ho, hcl⟩ isSubtype_stop ?_)
    obtain ⟨f0, f1, f2, f3, f4, f5⟩ := hf it (by simp)
    exact wpAny_pure ⟨rfl, I.turned (t' := s.toks) (fun b o hb q => he' b o hb q) f0 f1 f3 f4 f5⟩
  self := by
    rintro A i s Q E ⟨⟨_, he⟩, _⟩ h
    exact wpAny_pyIter_enum he h
section
variable {prog : Program} {w : World} {A : Around} {E : Value → Shared → Prop} {s : Shared}
theorem meets_enum1 {v : Value} {o : Obj} {G : Heap → Prop} (B : Begins v o G) :
    Meets (Builtin.«enumerate.__new__» ⟨[.type "enumerate", v], []⟩) (fun _ R s => G s.heap ∧
      R (.ok (.ret (.ref (s.heap.push o).objs.size))) { s with heap := (s.heap.push o).push { cls := .type "enumerate", data := .fields #[.none, .bool false, .ref s.heap.objs.size, rawInt 0, .none, .none] } }) :=
  .of_wp fun prog w A R s h => by
    obtain ⟨hp, g, d, tk, os⟩ := s
    obtain ⟨h1, h⟩ := h
    have hsub := sub_enumerate
    have go : ∀ {A' : Around} {E : Value → Shared → Prop} {Q : Value → Shared → Prop}, Q (.ref hp.objs.size) ⟨hp.push o, g, d, tk, os⟩ → wpAny (model prog w) A' (pyIter v) Q E ⟨hp, g, d, tk, os⟩ :=
      fun q => B.iter prog w _ _ ⟨hp, g, d, tk, os⟩ _ h1 q
    wp_walk using go
    refine wpAny_stack_any fun st => wpAny_pure ?_
    split
    · rename_i c _ _ _ _ _
      cases (c == Value.type "enumerate") <;> (wp_walk using go; exact ⟨_, rfl, h⟩)
    · wp_walk using go
      exact ⟨_, rfl, h⟩
theorem call_enum1 {v : Value} {o : Obj} {G : Heap → Prop} {Q : Value → Shared → Prop} (B : Begins v o G) (h1 : G s.heap)
    (h : ∀ h', IsEnum h' (s.heap.objs.size + 1) s.heap.objs.size 0 .none → h'.get? s.heap.objs.size = some o → (∀ b o, s.heap.get? b = some o → h'.get? b = some o) → Q (.ref (s.heap.objs.size + 1)) { s with heap := h' }) :
    wpAny (model prog w) A (call (.type "enumerate") [v]) Q E s := by
  refine callType_new F.called_enumerate (by decide) (F.typeCall_enumerate_1 _) (F.newCall_enumerate_1 _) (fun obj => F.args_object_init_2 obj _) F.entry_enumerate_new (meets_enum1 B) ⟨h1, ?_⟩
  have hz : (s.heap.push o).objs.size = s.heap.objs.size + 1 := Heap.size_push ..
  have he := Heap.get?_push_size (s.heap.push o) (o := { cls := .type "enumerate", data := .fields #[.none, .bool false, .ref s.heap.objs.size, rawInt 0, .none, .none] }) rfl
  show _ ∧ _
  rw [hz] at he ⊢
  exact ⟨⟨_, he, rfl⟩, h _ he (Heap.get?_push_of_some _ (Heap.get?_push_size _ B.free)) fun b o x => Heap.get?_push_of_some _ (Heap.get?_push_of_some _ x)⟩
end
section
variable {X : Cx}
def eEnumT (K : PySem.W.Frag) (ta : TA) : TI := fun σ H R => ta σ H fun vs H1 => ∃ a ys, vs = [.ref a] ∧ SqT K H1 a ys ∧ R (IteT K a) H1
theorem pi_enumT {e : Expr} {ta : TA} {p pos tpos : Pos} {elts : List Expr} {kk : Nat} (hg : Gl X "enumerate") (hm : X.mg "enumerate" = none) (ha : PA X [e] ta) (hs : starEach [e] X.env = [(false, eval e X.env)] := by rfl) :
    PI X (.Tuple elts kk tpos) (.Call (.Name "enumerate" p) [e] [] pos) (eEnumT X.K ta) := by
  constructor
  intro pins s σ H R I h
  refine Call_ (ld_blt I hg hm boot_enumerate (PyProof.Rows.callWith_type1 (thn (ha.run pos pins s σ H _ I h) ?_) hs rfl))
  rintro us s1 ⟨vs, H1, I1, r1, a, ys, rfl, hq, q⟩
  cases r1 with
  | cons r rr =>
    cases rr
    cases r
    obtain ⟨its, rv, pt, hz⟩ := I1.tuple hq
    obtain ⟨ot, hot, hct, _⟩ := id pt
    have la : a < s1.heap.objs.size := Heap.lt_size hot
    refine call_enum1 (begins_tuple a its.toArray) pt fun h' he hit hk => wpAny_pyIter_enum he ?_
    have I2 : Inv X pins σ H1 { s1 with heap := h' } := I1.kept (t' := s1.toks) hk
    refine ⟨s1.heap.objs.size + 1, [s1.heap.objs.size + 1, s1.heap.objs.size], _, _, H1, rfl, I2, turn_enumT a (s1.heap.objs.size + 1) s1.heap.objs.size (Nat.ne_of_gt (Nat.lt_succ_of_lt la)) (Nat.ne_of_gt la), ⟨⟨.none, he⟩, ⟨_, hit, rfl, rfl⟩, Nat.succ_ne_self _⟩, fun b hb => ?_, q⟩
    have above : s1.heap.objs.size ≤ b := by
      rcases List.mem_cons.mp hb with z | z
      · rw [z]; exact Nat.le_succ _
      · rw [List.mem_singleton.mp z]; exact Nat.le_refl _
    exact I1.fpOk above (I1.hok.fresh above)
def enumD (xs : List D) : List D := (List.range xs.length).zipWith (fun i x => .tup [.int (i : Nat), x]) xs
theorem enumD_get {xs : List D} {i : Nat} {d : D} (h : (enumD xs)[i]? = some d) : ∃ x, xs[i]? = some x ∧ d = .tup [.int (i : Nat), x] := by
  unfold enumD at h
  rw [List.getElem?_zipWith] at h
  by_cases hi : i < xs.length
  · rw [List.getElem?_range hi, List.getElem?_eq_getElem hi] at h
    cases h
    exact ⟨_, List.getElem?_eq_getElem hi, rfl⟩
  · rw [List.getElem?_eq_none (show xs.length ≤ i by omega)] at h
    cases e : (List.range xs.length)[i]? <;> rw [e] at h <;> cases h
theorem enumD_len (xs : List D) : (enumD xs).length = xs.length := by
  unfold enumD
  rw [List.length_zipWith, List.length_range, Nat.min_self]
def iEnum (a : DA) : DI := fun σ M R => a σ M fun ds M1 => match ds with
  | [.tup xs] => R (enumD xs) (fun _ => True) M1
  | _ => False
theorem ji_enum {e : Expr} {a : DA} {p pos tpos : Pos} {elts : List Expr} {kk : Nat} (hg : Gl X "enumerate") (hm : X.mg "enumerate" = none) (ha : JA X [e] a) (hs : starEach [e] X.env = [(false, eval e X.env)] := by rfl) :
    JI X (.Tuple elts kk tpos) (.Call (.Name "enumerate" p) [e] [] pos) (iEnum a) := by
  obtain ⟨t, a1, a2⟩ := ha.ex
  refine ⟨_, pi_enumT hg hm a1 hs, fun σ' M σ H R Q E S A h => ?_⟩
  refine a2 σ' M σ H _ _ E S (fun ds M1 vs H1 _ S1 s1 r1 q1 => ?_) h
  match ds, vs, r1, q1 with
  | [.tup xs], [_], .cons (.tup (a := b) (xs := ys) hq r) .nil, q1 =>
    refine ⟨b, ys, rfl, SqT.of hq, A _ _ M1 _ H1 S1 s1 ⟨fun M2 H2 S2 s2 _ => ?_, fun M2 H2 S2 s2 _ i x hx => ?_⟩ q1⟩
    · refine ⟨ys, SqT.of (s2 _ _ hq (S1.tupN hq)).1, ?_⟩
      rw [enumD_len, r.length]
      exact Nat.le_refl _
    · obtain ⟨z, hz, rfl⟩ := enumD_get hx
      have r2 := r.mono S1 s2
      have hq2 := SqT.of (K := X.K) (s2 _ _ hq (S1.tupN hq)).1
      obtain ⟨v, hv, rv⟩ := r2.get hz
      refine ⟨⟨ys, v, hq2, hv⟩, fun w H3 y => ?_⟩
      obtain ⟨T, y', rfl, hT, rfl, hy⟩ := y
      have e2 := hy ys hq2
      rw [hv] at e2
      cases e2
      exact ⟨S2.lay hT, Stp.lay hT, .tup upd_same (.cons (.int _) (.cons (rv.mono S2 (Stp.lay hT)) .nil))⟩
end

/-! ### dict comprehensions, the keys tuples -/
section
variable {X : Cx}
theorem storeT {pins : List (Addr × Obj)} {σ : L2.St} {H : Hp} {s : Shared} {E : Value → Shared → Prop} {D b : Addr} {kvs : List (List Key × V)} {k : List Key} {v : V} {r : Value} {Q : Unit → Shared → Prop} (hu : X.A.units + 1 < cLine) (I : Inv X pins σ H s)
    (hD : H D = some (.dT kvs)) (hb : H b = some (.tup (k.map kV))) (hz : kvs.length < sizeLine) (rv : RelV v r) (h : ∀ s', Inv X pins σ (upd H D (.dT (putK kvs k v))) s' → Q () s') : wpAny (model X.prog X.w) X.A (dictSet D (.ref b) r) Q E s := by
  obtain ⟨z, hd, ys, rel, dd⟩ := dt_of I.hok hD
  have ly : ys.length ≤ sizeLine := by rw [← Paired.length rel]; exact z
  have lk : (putK kvs k v).length ≤ sizeLine := by have := length_putK kvs k v; omega
  have room : (tupleKind (mixKind X.prog X.w)).room X.A := Nat.lt_of_succ_lt hu
  refine wpAny_dictSet_heap (hsz := ly) room (key_of I.hok hb) dd fun h' dd' same => h _ ?_
  obtain ⟨o, es, ep, look, c1, c2, c3, _, c5⟩ := dd'
  have mu : Mut (H D) := by rw [hD]; exact True.intro
  refine d_write I mu same ⟨o, look⟩ ⟨lk, hd, _, (rel.put k hb rv).keeps fun c zs ec => ?_, o, es, ep, look, c1, c2, c3, c5⟩
  have ne : c ≠ D := ne_of ec hD fun z => nomatch z
  rw [upd_ne ne]
  exact ec
def tDcT (wi : TI) (g : TG) (tt : TT) (tk tv : TE) (vs : List Nat) : TE := fun σ H Q => wi σ H fun J H1 => ∀ D, H1 D = none → ∃ W : Nat → Nat → Hp → Prop, (∃ m, W 0 m (upd H1 D (.dT []))) ∧ ∀ i m H, W i m H →
  (J.stop i H ∧ Q (.ref D) H) ∨ (J.go i H ∧ ∃ Nx : Hp → Prop, (∀ H', Nx H' → ∃ m', m' < m ∧ W (i + 1) m' H') ∧ ∀ x H', J.yld i H x H' → g x (wipe σ vs) H' fun σ2 H2 => wipe σ2 vs = wipe σ vs ∧ tt σ2 H2 fun b H3 =>
    if b = true then tk σ2 H3 fun y H4 => tv σ2 H4 fun z H5 => ∃ kvs k c, y = .ref c ∧ H5 c = some (.tup (k.map kV)) ∧ H5 D = some (.dT kvs) ∧ kvs.length < sizeLine ∧ Nx (upd H5 D (.dT (putK kvs k z))) else Nx H3)
theorem dcT_run {pins : List (Addr × Obj)} {s : Shared} {σ : L2.St} {H : Hp} {Q : VK} {use : Option (Value → Sem Unit)} {Qf : Value → Shared → Prop} {kx vx tg iter : Expr} {ifs : List Expr} {scope : Scope} {own : List (Str × Nat)} {pos pos' : Pos} {wi : TI} {g : TG} {tt : TT} {tk tv : TE} (hc : X.calm = true) (hN : X.N.Nodup) (hu : X.A.units + 1 < cLine) (hi : PI X tg iter wi) (ok : BlkOk X.N X.env.scope scope own)
    (hg : ∀ (s : Shared) (H : Hp) (C : Addr) (cl : List (Str × Addr)) (fp : List Addr), PG (X.blk s H scope (compEnvC scope cl C X.env) fp) tg g)
    (ht : ∀ (s : Shared) (H : Hp) (C : Addr) (cl : List (Str × Addr)) (fp : List Addr), PTs (X.blk s H scope (compEnvC scope cl C X.env) fp) ifs tt)
    (hk : ∀ (s : Shared) (H : Hp) (C : Addr) (cl : List (Str × Addr)) (fp : List Addr), PE (X.blk s H scope (compEnvC scope cl C X.env) fp) kx tk)
    (he : ∀ (s : Shared) (H : Hp) (C : Addr) (cl : List (Str × Addr)) (fp : List Addr), PE (X.blk s H scope (compEnvC scope cl C X.env) fp) vx tv) (hs : ∀ x, foldedSetIterable iter X.env x = pure x)
    (I : Inv X pins σ H s) (h : tDcT wi g tt tk tv (own.map (·.2)) σ H Q)
    (fin : ∀ D C s' m H', Inv X pins σ H' s' → Q (.ref D) H' → s'.heap.Ns C m → FpOk X pins H' C → compPost (model X.prog X.w) X.A X.xe use Qf (.ref D) C (.ok .next) s') :
    wpAny (model X.prog X.w) X.A (comprehension (.DictComp kx vx [⟨tg, iter, ifs, 0⟩] scope pos) scope X.env pos' newDict false (eval iter X.env) use) Qf X.xe s := by
  have cls : ∀ y ∈ scope.names, y.2 = .free → ∃ c, X.env.cells.lookup y.1 = some c := by
    intro y hy e
    rcases ok.free y hy e with k | k
    · exact I.ok.has y.1 (Or.inl k)
    · exact I.ok.has y.1 (Or.inr k)
  refine wpAny_comprehension_free (use := use) rfl hs (closure_ok cls) ok.kind (fun y hy e => by rw [ok.uniq y hy, e]) (thn (hi.run pins s σ H _ I h) fun xv s1 hx => thn hx ?_)
  rintro _ s2 ⟨it, fp, tn, J, H2, rfl, I2, T, st2, f2, q⟩
  refine wpAny_newObj_type (newEnv_comp ?_)
  have hfr : H2 s2.heap.objs.size = none := I2.hok.fresh (Nat.le_refl _)
  obtain ⟨W, ⟨m0, w0⟩, turn⟩ := q _ hfr
  generalize eD : s2.heap.objs.size = D at *
  obtain ⟨s3, es3⟩ : ∃ s3 : Shared, s3 = { s2 with heap := s2.heap.push { cls := .type "dict", data := .dict #[] } } := ⟨_, rfl⟩
  rw [← es3]
  have hp3 : s3.heap = s2.heap.push { cls := .type "dict", data := .dict #[] } := by rw [es3]
  have grow : ∀ b o, s2.heap.get? b = some o → s3.heap.get? b = some o := fun b o e => by rw [hp3]; exact Heap.get?_push_of_some _ e
  have I3 : Inv X pins σ (upd H2 D (.dT [])) s3 := by
    have z := dt_empty (P := X.prog) (w := X.w) (H := upd H2 D (.dT [])) s2.heap I2.big
    rw [eD] at z
    rw [es3]
    exact I2.laid (t' := s2.toks) (fun b o e => Heap.get?_push_of_some _ e) (Nat.le_of_eq eD) z
  have below : ∀ b ∈ fp, b < D := by
    intro b hb
    obtain ⟨o, e, _⟩ := T.obj _ _ st2 b hb
    rw [← eD]
    exact Heap.lt_size e
  have f3 : ∀ b ∈ fp, FpOk X pins (upd H2 D (.dT [])) b ∧ b < s3.heap.objs.size := by
    intro b hb
    have lt := below b hb
    refine ⟨⟨?_, (f2 b hb).2⟩, ?_⟩
    · rw [upd_ne (Nat.ne_of_lt lt)]
      exact (f2 b hb).1
    · rw [hp3, Heap.size_push, eD]
      exact Nat.lt_succ_of_lt lt
  have st3 : tn 0 s3.heap := T.keep _ _ _ st2 fun b _ o e => grow b o e
  have I4 := block_start I3 ok hN f3
  have none3 : ∀ b ∈ fp, (upd H2 D (.dT [])) b = none := fun b hb => (f3 b hb).1.1
  obtain ⟨H3, eH3⟩ : ∃ H3, H3 = upd H2 D (.dT []) := ⟨_, rfl⟩
  rw [← eH3] at I3 I4 f3 none3 w0
  have pg := hg s3 H3 s3.heap.objs.size (cellsFrom (s3.heap.objs.size + 1) scope.names (cloFrom X.env.cells scope.names [])) fp
  have pt := ht s3 H3 s3.heap.objs.size (cellsFrom (s3.heap.objs.size + 1) scope.names (cloFrom X.env.cells scope.names [])) fp
  have pk := hk s3 H3 s3.heap.objs.size (cellsFrom (s3.heap.objs.size + 1) scope.names (cloFrom X.env.cells scope.names [])) fp
  have pv := he s3 H3 s3.heap.objs.size (cellsFrom (s3.heap.objs.size + 1) scope.names (cloFrom X.env.cells scope.names [])) fp
  show codeAny _ _ (.compStart (.DictComp kx vx [⟨tg, iter, ifs, 0⟩] scope pos) 0 (.ref it) (.ref D) (compEnvC scope (cellsFrom (s3.heap.objs.size + 1) scope.names (cloFrom X.env.cells scope.names [])) s3.heap.objs.size X.env)) (compPost (model X.prog X.w) X.A X.xe use Qf (.ref D) s3.heap.objs.size) _
  obtain ⟨ce, ece⟩ : ∃ ce, ce = compEnvC scope (cellsFrom (s3.heap.objs.size + 1) scope.names (cloFrom X.env.cells scope.names [])) s3.heap.objs.size X.env := ⟨_, rfl⟩
  rw [← ece] at I4 pg pt pk pv ⊢
  have cL : ce.locals = s3.heap.objs.size := by rw [ece]; rfl
  obtain ⟨s4, es4⟩ : ∃ s4 : Shared, s4 = { s3 with heap := pushCells (s3.heap.push { cls := .type "dict", data := .dict #[] }) scope.names } := ⟨_, rfl⟩
  rw [← es4] at I4 ⊢
  have st4 : tn 0 s4.heap := T.keep _ _ _ st3 fun b _ o e => by
    rw [es4]
    exact pushCells_keeps _ _ _ _ (Heap.get?_push_of_some _ e)
  have fps : ∀ {σ' : L2.St} {H' : Hp} {s' : Shared}, Inv (X.blk s3 H3 scope ce fp) [] σ' H' s' → (∀ b ∈ fp, H' b = none) → ∀ b ∈ fp, FpOk (X.blk s3 H3 scope ce fp) [] H' b := by
    intro σ' H' s' I' hn b hb
    exact ⟨hn b hb, (I'.ok.exf b hb).1, I'.ok.exfs b hb, Or.inl hb, fun x c e => (I'.ok.exf b hb).2 x c e, fun p hp => (List.not_mem_nil (a := p) (by simpa using hp)).elim⟩
  have loop : codeAny (model X.prog X.w) X.A (.compLoop (.DictComp kx vx [⟨tg, iter, ifs, 0⟩] scope pos) 0 (.ref it) (.ref D) ce) (compPost (model X.prog X.w) X.A X.xe use Qf (.ref D) s3.heap.objs.size) s4 := by
    refine compLoop_anyD (fun n s' => ∃ i H', Inv (X.blk s3 H3 scope ce fp) [] (wipe σ (own.map (·.2))) H' s' ∧ tn i s'.heap ∧ (∀ b ∈ fp, H' b = none) ∧ W i n H') ?_ m0 ⟨0, H3, I4, st4, none3, w0⟩
    rintro n s5 ⟨i, H5, I5, st5, n5, w5⟩
    rcases turn i n H5 w5 with ⟨over, qq⟩ | ⟨go, Nx, hNx, step⟩
    · refine thnF (T.done (X.blk s3 H3 scope ce fp) rfl rfl rfl hc i [] s5 _ H5 (fun _ _ => False) I5 (fps I5 n5) st5 over) ?_
      rintro _ s6 ⟨rfl, I6⟩
      have I7 : Inv X pins σ H5 s6 := I3.call' (ch := fp) I6.os I6.base I6.hok I6.bare fun b hb =>
        let z := (f3 b hb).1.2
        ⟨z.2.2.1, z.1, z.2.2.2.1, z.2.2.2.2⟩
      have nC : H5 ce.locals = none := I6.free
      obtain ⟨m, hm, _⟩ := I6.loc
      have hm : s6.heap.Ns ce.locals m := hm
      rw [cL] at nC hm
      exact fin D s3.heap.objs.size s6 m H5 I7 qq hm (I3.fpOk (Nat.le_refl _) nC)
    · refine thnF (T.item (X.blk s3 H3 scope ce fp) rfl rfl rfl hc i [] s5 _ H5 (fun _ _ => False) I5 (fps I5 n5) st5 go) ?_
      rintro _ s6 ⟨u, rfl, h6⟩
      refine thnF h6 ?_
      rintro _ s7 ⟨x, H7, I7, r7, y7, st7, n7⟩
      have I8 := I7.pinned (fps I7 n7) (T.obj _ _ st7)
      -- one turn is over
      have again : ∀ {σ8 : L2.St} {H' : Hp} {s' : Shared}, wipe σ8 (own.map (·.2)) = wipe σ (own.map (·.2)) → Inv (X.blk s3 H3 scope ce fp) ([] ++ pinsAt fp s7.heap) σ8 H' s' → Nx H' →
          ∃ m, m < n ∧ ∃ i H', Inv (X.blk s3 H3 scope ce fp) [] (wipe σ (own.map (·.2))) H' s' ∧ tn i s'.heap ∧ (∀ b ∈ fp, H' b = none) ∧ W i m H' := by
        intro σ8 H' s' hw8 I' nx
        obtain ⟨m', lt, w'⟩ := hNx H' nx
        have held : ∀ b ∈ fp, ∀ o, s7.heap.get? b = some o → s'.heap.get? b = some o ∧ H' b = none := fun b hb o e =>
          have z := I'.pin (b, o) (List.mem_append_right _ (List.mem_append_right _ (mem_pinsAt hb e)))
          ⟨z.1, z.2.1⟩
        have len8 : (wipe σ (own.map (·.2))).length = σ8.length := by rw [← hw8, wipe_length]
        refine ⟨m', lt, i + 1, H', (I'.unpinned (pins := [])).weak len8 (fun j v e => (wipe_some (by rw [← hw8] at e; exact e)).1), T.keep _ _ _ st7 fun b hb o e => (held b hb o e).1, fun b hb => ?_, w'⟩
        obtain ⟨o, e, _⟩ := T.obj _ _ st7 b hb
        exact (held b hb o e).2
      refine thnF (pg.run _ s7 _ H7 x u _ I8 r7 (step x H7 y7)) ?_
      rintro _ s8 ⟨σ8, H8, I9, hw8, q8⟩
      refine thnF (pt.run _ s8 σ8 H8 _ I9 q8) ?_
      rintro b s9 ⟨H9, I10, q9⟩
      by_cases hb : b = true
      · subst hb
        rw [if_pos rfl] at q9 ⊢
        refine thnF (pk.run _ s9 σ8 H9 _ I10 q9) ?_
        rintro z s10 ⟨yk, H10, I11, r10, q10⟩
        refine thnF (pv.run _ s10 σ8 H10 _ I11 q10) ?_
        rintro z2 s11 ⟨yv, H11, I12, r11, kvs, k, c, rfl, hc11, hD11, hz11, nx⟩
        obtain rfl : z = Value.ref c := r10
        exact storeT (X := X.blk s3 H3 scope ce fp) hu I12 hD11 hc11 hz11 r11 fun s12 I13 => again hw8 I13 nx
      · rw [if_neg hb] at q9 ⊢
        exact again hw8 I10 q9
  exact codeAny_compStart_dict loop (T.self X.A 0 _ _ _ st4 loop)
theorem pe_dcT {kx vx tg iter : Expr} {ifs : List Expr} {scope : Scope} {own : List (Str × Nat)} {pos : Pos} {wi : TI} {g : TG} {tt : TT} {tk tv : TE} (hc : X.calm = true) (hN : X.N.Nodup) (hu : X.A.units + 1 < cLine) (hi : PI X tg iter wi) (ok : BlkOk X.N X.env.scope scope own)
    (hg : ∀ (s : Shared) (H : Hp) (C : Addr) (cl : List (Str × Addr)) (fp : List Addr), PG (X.blk s H scope (compEnvC scope cl C X.env) fp) tg g)
    (ht : ∀ (s : Shared) (H : Hp) (C : Addr) (cl : List (Str × Addr)) (fp : List Addr), PTs (X.blk s H scope (compEnvC scope cl C X.env) fp) ifs tt)
    (hk : ∀ (s : Shared) (H : Hp) (C : Addr) (cl : List (Str × Addr)) (fp : List Addr), PE (X.blk s H scope (compEnvC scope cl C X.env) fp) kx tk)
    (he : ∀ (s : Shared) (H : Hp) (C : Addr) (cl : List (Str × Addr)) (fp : List Addr), PE (X.blk s H scope (compEnvC scope cl C X.env) fp) vx tv) (hs : ∀ x, foldedSetIterable iter X.env x = pure x := by intro _; rfl) :
    PE X (.DictComp kx vx [⟨tg, iter, ifs, 0⟩] scope pos) (tDcT wi g tt tk tv (own.map (·.2))) := by
  constructor
  intro pins s σ H Q I h
  rw [arm_eval_DictComp]
  refine dcT_run hc hN hu hi ok hg ht hk he hs I h fun D C s' m H' I' q hm f => ⟨m, hm, fun h'' sb => ?_⟩
  obtain ⟨g0, g1, g2, g3, g4, g5⟩ := f
  exact ⟨.ref D, H', I'.turned (t' := s'.toks) (fun b o hb e => (sb.2 b hb).trans e) g0 g1 g3 g4 g5, rfl, q⟩
/-- name = {..} on one line -/
theorem ps_setDcT {i : Nat} {y : Str} {py spos : Pos} {kx vx tg iter : Expr} {ifs : List Expr} {scope : Scope} {own : List (Str × Nat)} {pos : Pos} {wi : TI} {g : TG} {tt : TT} {tk tv : TE} (hc : X.calm = true) (hN : X.N.Nodup) (hy : X.N[i]? = some y) (hyl : X.env.scope.names.lookup y = some .local) (hsw : swapsWith (.DictComp kx vx [⟨tg, iter, ifs, 0⟩] scope pos) (some (.Name y py)) spos.line X.env = pure true) (hu : X.A.units + 1 < cLine) (hi : PI X tg iter wi) (ok : BlkOk X.N X.env.scope scope own)
    (hg : ∀ (s : Shared) (H : Hp) (C : Addr) (cl : List (Str × Addr)) (fp : List Addr), PG (X.blk s H scope (compEnvC scope cl C X.env) fp) tg g)
    (ht : ∀ (s : Shared) (H : Hp) (C : Addr) (cl : List (Str × Addr)) (fp : List Addr), PTs (X.blk s H scope (compEnvC scope cl C X.env) fp) ifs tt)
    (hk : ∀ (s : Shared) (H : Hp) (C : Addr) (cl : List (Str × Addr)) (fp : List Addr), PE (X.blk s H scope (compEnvC scope cl C X.env) fp) kx tk)
    (he : ∀ (s : Shared) (H : Hp) (C : Addr) (cl : List (Str × Addr)) (fp : List Addr), PE (X.blk s H scope (compEnvC scope cl C X.env) fp) vx tv) (hs : ∀ x, foldedSetIterable iter X.env x = pure x := by intro _; rfl) :
    PS X (.Assign [.Name y py] (.DictComp kx vx [⟨tg, iter, ifs, 0⟩] scope pos) spos) (tAsg (tDcT wi g tt tk tv (own.map (·.2))) (gName i)) := by
  constructor
  intro pins s σ H D I h
  rw [exec_Assign_Name_used _ _ _ _ hsw]
  refine wpAny_bind (wpAny_standAt (wpAny_bind ?_))
  show wpAny _ X.A (do let _ ← comprehension (.DictComp kx vx [⟨tg, iter, ifs, 0⟩] scope pos) scope X.env (firstIterPos [⟨tg, iter, ifs, 0⟩] pos) newDict false (eval iter X.env) (some (assign (.Name y py) X.env))) _ _ s
  have h' : tDcT wi g tt tk tv (own.map (·.2)) σ H (fun x H1 => gName i x σ H1 D.nx) := h
  refine wpAny_bind (thn (dcT_run (Qf := fun _ s' => SP X pins D .next s') hc hN hu hi ok hg ht hk he hs I h' fun L C s' m H' I' q hm f => ?_) fun _ s' hq => wpAny_pure (wpAny_pure hq))
  show wpAny _ _ (assign (.Name y py) X.env (.ref L)) _ _ _
  refine wpAny_assign_Name (store_ok2 (v := V.ref L) I' hN hy (.inl hyl) rfl ?_ (.inr hyl))
  rintro s2 I2 ⟨a, sb, ha⟩
  obtain ⟨g0, g1, g2, g3, g4, g5⟩ := f
  have ne : C ≠ a := by
    rcases ha with z | z
    · exact fun e => g1 (e.trans z)
    · exact fun e => g4 y a z e.symm
  refine ⟨m, hm.sameBut sb ne, fun h3 sb3 => ?_⟩
  exact ⟨_, H', I2.turned (t' := s2.toks) (fun b o hb e => (sb3.2 b hb).trans e) g0 g1 g3 g4 g5, q⟩
theorem sw_trueD {kx vx : Expr} {gs : List Comprehension} {scope : Scope} {pos py : Pos} {y : Str} {l : Nat} {env : PySem.Env} (hk : env.scope.kind = .function) (hy : env.scope.names.lookup y = some .local) (hl : (py.line == pos.line) = true)
    (ha : (scope.names.any fun (n, k) => n == y && (k == .local || k == .cell)) = false) : swapsWith (.DictComp kx vx gs scope pos) (some (.Name y py)) l env = pure true := by
  have loc : env.kindOf y = some .local := hy
  have fn : env.blockKind = .function := by
    unfold Env.blockKind
    rw [hk]
    rfl
  unfold swapsWith
  simp only [fn, loc, ha, Expr.pos, hl]
  rfl
def xDcT (ι : DI) (g : DG) (t : DT) (k e : DE) (vs : List Nat) : DE := fun σ M Q => ι σ M fun items ok M1 => ∀ p, M1 p = none → ∃ I : Nat → List (List Key × D) → Mm → Prop, I 0 [] (M1.upd p (.dT [])) ∧
  (∀ (i : Nat) (x : D) acc M, items[i]? = some x → I i acc M → ok M ∧ g x (wipeD σ vs) M fun σ2 M2 => t σ2 M2 fun b M3 =>
    if b = true then k σ2 M3 fun y M4 => e σ2 M4 fun z M5 => ∃ ks c, y = .tup ks ∧ ks.map keyD = c.map some ∧ M5 p = some (.dT acc) ∧ acc.length < sizeLine ∧ I (i + 1) (putD acc c z) (M5.upd p (.dT (putD acc c z))) else I (i + 1) acc M3) ∧
  ∀ acc M, I items.length acc M → ok M ∧ Q (.ptr p) M
theorem re_dcT {K : PySem.W.Frag} {wi : TI} {t : TG} {vs : List Nat} {ι : DI} {g : DG} {tt : DT} {k e : DE} (hi : ReI K wi ι) (hg : ReG K t g) (ow : Own t vs) : ReE K (tDcT wi t (cT K tt) (cE K k) (cE K e) vs) (xDcT ι g tt k e vs) := fun σ' M σ H R Q E S A h => by
  refine hi σ' M σ H _ _ E S (fun items ok M1 J H1 S1 s1 it q1 => ?_) h
  intro p np
  obtain ⟨I, h0, hs, hd⟩ := q1 p (S1.free np)
  have E1 := E.mono S s1
  have sp : Stp M1 H1 (M1.upd p (.dT [])) (upd H1 p (.dT [])) := Stp.put (.inr np)
  have Sp : Sim K (M1.upd p (.dT [])) (upd H1 p (.dT [])) := S1.put (c := .dT []) (.inr np) ⟨[], upd_same, rfl, .nil⟩
  refine ⟨fun i m H2 => m = items.length - i ∧ i ≤ items.length ∧ ∃ acc M2, Sim K M2 H2 ∧ Stp M1 H1 M2 H2 ∧ I i acc M2, ⟨items.length, by omega, Nat.zero_le _, [], _, Sp, sp, h0⟩, ?_⟩
  rintro i m H2 ⟨hm, hle, acc, M2, S2, s2, hI⟩
  by_cases hlt : i < items.length
  · have hx : items[i]? = some items[i] := List.getElem?_eq_getElem hlt
    obtain ⟨o2, step⟩ := hs i _ acc M2 hx hI
    obtain ⟨g1, g2⟩ := it.go M2 H2 S2 s2 o2 i _ hx
    refine .inr ⟨g1, fun H3 => ∃ acc' M3, Sim K M3 H3 ∧ Stp M1 H1 M3 H3 ∧ I (i + 1) acc' M3, fun H3 ⟨acc', M3, S3, s3, h3⟩ => ⟨items.length - (i + 1), by omega, rfl, hlt, acc', M3, S3, s3, h3⟩, fun v H3 y => ?_⟩
    obtain ⟨S3, s3, rv⟩ := g2 v H3 y
    have s13 := s2.trans s3
    refine ow.at (hg _ v (wipeD σ' vs) M2 (wipe σ vs) H3 _ _ ((E1.mono S1 s13).wipe vs) S3 rv (fun σ4' M4 σ4 H4 E4 S4 s4 q4 => ?_) step)
    refine ⟨σ4', M4, _, E4, S4, fun b M5 H5 S5 s5 q5 => ?_, q4⟩
    have s15 := s13.trans (s4.trans s5)
    cases b with
    | true =>
      dsimp only at q5 ⊢
      rw [if_pos rfl] at q5 ⊢
      refine ⟨σ4', M5, _, E4.mono S4 s5, S5, fun y M6 vy H6 S6 s6 r6 q6 => ?_, q5⟩
      refine ⟨σ4', M6, _, (E4.mono S4 s5).mono S5 s6, S6, fun z M7 vz H7 S7 s7 r7 q7 => ?_, q6⟩
      obtain ⟨ks, c, ey, hk, hp7, hl, hI7⟩ := q7
      subst ey
      obtain ⟨ys, hy, hks, hr⟩ := S7 p _ hp7
      have r6' := r6.mono S6 s7
      cases r6' with
      | tup hb rb =>
        rename_i b bs
        have eb := keys_rep rb hk
        subst eb
        have hne : M7 p ≠ none := by rw [hp7]; exact fun z => nomatch z
        have st : Stp M7 H7 (M7.upd p (.dT (putD acc c z))) (upd H7 p (.dT (putK ys c vz))) := Stp.put (.inl hne)
        obtain ⟨j1, j2⟩ := put_rep (k := c) hks hr r7
        exact ⟨ys, c, b, rfl, hb, hy, by rw [len_keys hks]; exact hl, _, _, S7.put (c := .dT (putD acc c z)) (.inl hne) ⟨_, upd_same, j1, j2.mono S7 st⟩, s15.trans (s6.trans (s7.trans st)), hI7⟩
    | false =>
      dsimp only at q5 ⊢
      rw [if_neg Bool.false_ne_true] at q5 ⊢
      exact ⟨acc, M5, S5, s15, q5⟩
  · have e : i = items.length := by omega
    subst e
    obtain ⟨o2, q⟩ := hd acc M2 hI
    exact .inl ⟨it.stop M2 H2 S2 s2 o2, A _ M2 _ H2 S2 (s1.trans s2) (.ptr p) q⟩
theorem j_dcT {kx vx tg iter : Expr} {ifs : List Expr} {scope : Scope} {own : List (Str × Nat)} {pos : Pos} {ι : DI} {g : DG} {t : DT} {k e : DE} (hc : X.calm = true) (hN : X.N.Nodup) (hu : X.A.units + 1 < cLine) (hi : JI X tg iter ι) (ok : BlkOk X.N X.env.scope scope own) (hg : JB X scope tg (own.map (·.2)) g)
    (ht : ∀ (s : Shared) (H : Hp) (C : Addr) (cl : List (Str × Addr)) (fp : List Addr), JTs (X.blk s H scope (compEnvC scope cl C X.env) fp) ifs t)
    (hk : ∀ (s : Shared) (H : Hp) (C : Addr) (cl : List (Str × Addr)) (fp : List Addr), JE (X.blk s H scope (compEnvC scope cl C X.env) fp) kx k)
    (he : ∀ (s : Shared) (H : Hp) (C : Addr) (cl : List (Str × Addr)) (fp : List Addr), JE (X.blk s H scope (compEnvC scope cl C X.env) fp) vx e) (hs : ∀ x, foldedSetIterable iter X.env x = pure x := by intro _; rfl) :
    JE X (.DictComp kx vx [⟨tg, iter, ifs, 0⟩] scope pos) (xDcT ι g t k e (own.map (·.2))) := by
  obtain ⟨wi, a1, a2⟩ := hi.ex
  obtain ⟨u, b1, b2, b3⟩ := hg.ex
  exact ⟨_, pe_dcT hc hN hu a1 ok b1 (fun s H C cl fp => (ht s H C cl fp).run) (fun s H C cl fp => (hk s H C cl fp).can) (fun s H C cl fp => (he s H C cl fp).can) hs, re_dcT a2 b2 b3⟩
theorem js_setDcT {i : Nat} {y : Str} {py spos : Pos} {kx vx tg iter : Expr} {ifs : List Expr} {scope : Scope} {own : List (Str × Nat)} {pos : Pos} {ι : DI} {g : DG} {t : DT} {k e : DE} (hc : X.calm = true) (hN : X.N.Nodup) (hy : X.N[i]? = some y) (hyl : X.env.scope.names.lookup y = some .local)
    (hsw : swapsWith (.DictComp kx vx [⟨tg, iter, ifs, 0⟩] scope pos) (some (.Name y py)) spos.line X.env = pure true) (hu : X.A.units + 1 < cLine) (hi : JI X tg iter ι) (ok : BlkOk X.N X.env.scope scope own) (hg : JB X scope tg (own.map (·.2)) g)
    (ht : ∀ (s : Shared) (H : Hp) (C : Addr) (cl : List (Str × Addr)) (fp : List Addr), JTs (X.blk s H scope (compEnvC scope cl C X.env) fp) ifs t)
    (hk : ∀ (s : Shared) (H : Hp) (C : Addr) (cl : List (Str × Addr)) (fp : List Addr), JE (X.blk s H scope (compEnvC scope cl C X.env) fp) kx k)
    (he : ∀ (s : Shared) (H : Hp) (C : Addr) (cl : List (Str × Addr)) (fp : List Addr), JE (X.blk s H scope (compEnvC scope cl C X.env) fp) vx e) (hs : ∀ x, foldedSetIterable iter X.env x = pure x := by intro _; rfl) :
    JS X (.Assign [.Name y py] (.DictComp kx vx [⟨tg, iter, ifs, 0⟩] scope pos) spos) (zSet i (xDcT ι g t k e (own.map (·.2)))) := by
  obtain ⟨wi, a1, a2⟩ := hi.ex
  obtain ⟨u, b1, b2, b3⟩ := hg.ex
  exact ⟨_, ps_setDcT hc hN hy hyl hsw hu a1 ok b1 (fun s H C cl fp => (ht s H C cl fp).run) (fun s H C cl fp => (hk s H C cl fp).can) (fun s H C cl fp => (he s H C cl fp).can) hs, re_set (re_dcT a2 b2 b3)⟩
/-! ### repr -/
def kRepr : D → Mm → DK → Prop := fun d M Q => match d with
  | .tup xs => (D.tup xs).wf 60 = true ∧ (D.tup xs).py.showable = true ∧ (D.tup xs).py.shown.length ≤ sizeLine ∧ Q (.str (D.tup xs).py.shown) M
  | _ => False
theorem jc_repr (hu : X.A.units + 64 < cLine) (hg : X.A.guards = some []) : JC X (.builtin "repr") (c1 kRepr) := by
  refine ⟨fun vs H Q => ∃ a d, vs = [.ref a] ∧ Dp X.K H (.ref a) d ∧ d.showable = true ∧ d.hasDict = false ∧ d.depth ≤ 60 ∧ d.shown.length ≤ sizeLine ∧ Q (.str d.shown) H, ?_, re_c1 fun d v M H R Q S r A q => ?_⟩
  · intro pins s σ H vs us Q I rv h
    obtain ⟨a, d, rfl, hd, sh, nd, dp, hl, q⟩ := h
    obtain ⟨u, rfl, ru⟩ := vals1 rv
    cases ru
    obtain ⟨as, rd⟩ := Dp.reads I d (.ref a) (.ref a) hd rfl
    refine repr_of_reads' rd sh (PyData.noDict_hsm nd) hg (by omega) (fun b o e => e) (fun h' u tk hk => ?_) hl
    exact ⟨.str _, H, I.kept (t' := tk) hk, ⟨_, rfl⟩, q⟩
  · cases r with
    | tup hq ra =>
      obtain ⟨w, sh, hl, q⟩ := q
      have wp := wf_py 60 _ w
      exact ⟨_, _, rfl, (Rep.tup hq ra).dp 60 _ _ w, sh, PyData.hasDict_of_canLay _ wp.1, wp.2, hl, A _ M _ H S Stp.refl (.str _) q⟩
    | _ => exact (show False from q).elim
/-! ### == and != of texts -/
def oEqS : DR := fun d e M Q => match d, e with
  | .str a, .str b => Q (.bl (decide (a = b))) M
  | _, _ => False
def oNeS : DR := fun d e M Q => match d, e with
  | .str a, .str b => Q (.bl (!decide (a = b))) M
  | _, _ => False
theorem str_same (a b : Str) : decide (V.str a = V.str b) = decide (a = b) := by
  rw [Bool.eq_iff_iff]
  simp
theorem jo_eqS : JOp X (compareOp .Eq) oEqS := ⟨_, op_eq, fun d e x y M H R Q S rx ry A q => by
  cases rx with
  | str a =>
    cases ry with
    | str b =>
      refine ⟨rfl, ?_⟩
      rw [str_same]
      exact A _ M _ H S Stp.refl (.bl _) q
    | _ => exact (show False from q).elim
  | _ => exact (show False from q).elim⟩
theorem jo_neS : JOp X (compareOp .NotEq) oNeS := ⟨_, op_ne, fun d e x y M H R Q S rx ry A q => by
  cases rx with
  | str a =>
    cases ry with
    | str b =>
      refine ⟨rfl, ?_⟩
      rw [str_same]
      exact A _ M _ H S Stp.refl (.bl _) q
    | _ => exact (show False from q).elim
  | _ => exact (show False from q).elim⟩
end
end DL

set_option Elab.async false
set_option linter.all false
set_option maxRecDepth 100000
set_option maxHeartbeats 4000000
/-! The data layer, part i: the law's own call. -/
namespace DL
open PySem PySem.Spec L2 PyProof.Rows

/-- one def's call ahead of which no other stands -/
theorem called_top {P : Program} {w : World} {K : PySem.W.Frag} {mg : Str → Option Value} {base : Heap} {x qual y : Str} {st : Stmt} {f a : Addr} {fd : FuncData} {N : List Str} {k : Nat} {b : DS} {s : Shared} {H : Hp} {v : V} {d : D} {M : Mm} {R : DK} (F : Fun K x qual st f fd) (S : FnScope N [y] (defScope st))
    (hr : L2.Room (k + 1) callerA) (e0 : Env0 P w K mg base callerA [] s H) (hb : BindsTo s fd ⟨[.ref a], []⟩ [(y, .ref a)]) (hv : v = .ref a)
    (body : ∀ cdv : Value, JSs (cxOf CX0 P w K mg base N qual (defScope st) f cdv callerA [] s H E0).nox (defBody st) b)
    (Sm : Sim K M H) (r : Rep K M H v d) (q : b { nx := fun _ _ => False, rt := R } (enter N.length [d]) M) :
    codeAny (model P w) callerA (.call (.ref f) ⟨[.ref a], []⟩) (fun rs s' => ∃ u v' d' M' H', rs = .ok (.ret u) ∧ s'.os = s.os ∧ AllBare s'.gens ∧ Un (frs []) [] H H' s.heap s'.heap ∧ HOk P w H' s'.heap ∧ RelV v' u ∧ Rep K M' H' v' d' ∧ R d' M') s := by
  subst hv
  obtain ⟨oc, od, kV, doc, pm, an, cdv, ct, osl, rfl, lk, hcd⟩ := F.ex
  have there : K.In s.heap := e0.mod.kin.keeps fun b o e => (e0.bs b o e).1
  have few : s.heap.NoLimit := e0.mod.nolimit.keeps fun b o e => (e0.bs b o e).1
  have kinds : ∀ z ∈ [(y, Value.ref a)], (defScope st).names.lookup z.1 = some .local ∨ ((defScope st).names.lookup z.1 = some .cell ∧ ((cellsFrom (s.heap.objs.size + 1) (defScope st).names []).lookup z.1).isSome = true) := by
    intro z hz
    rw [List.mem_singleton.mp hz]
    rcases S.par y List.mem_cons_self with e | e
    · exact Or.inl e
    · exact Or.inr ⟨e, PySem.W.cellsFrom_some _ _ _ (Or.inl e)⟩
  refine codeAny_call_function hr.depth (there _ _ lk) rfl S.co S.gen rfl (PySem.W.codeRec_of there hcd) (hb _ _ _ _ ?_)
  refine wpAny_newFunctionEnv_cells S.kind kinds ?_
  rintro env rfl s1 xx
  refine ⟨few.keeps xx.toInCall.keep, codeAny_func ?_⟩
  have I : Inv (cxOf CX0 P w K mg base N qual (defScope st) f cdv callerA [] s H E0) [] (L2.start N [.ref a]) H s1 := inv_start (us := [.ref a]) S hr.hd e0 rfl (.cons rfl .nil) xx
  obtain ⟨t, b1, b2⟩ := (body cdv).ex
  have hq : t { nx := fun _ _ => False, rt := fun v' H' => ∃ d' M', Rep K M' H' v' d' ∧ R d' M' } (L2.start N [.ref a]) H := by
    refine b2 { nx := fun _ _ => False, rt := R } _ _ M _ H (startD (.cons r .nil) N) Sm ⟨?_, ?_, ?_, ?_⟩ q
    · exact fun _ _ _ _ _ _ _ z => z.elim
    · exact fun d' M' v' H' S' _ r' z => ⟨d', M', r', z⟩
    · exact fun _ _ _ _ _ _ _ z => False.elim z
    · exact fun _ _ _ _ _ _ _ z => False.elim z
  refine wpAny_mono (b1.nox.run [] s1 _ H _ I hq) (fun fl s' hs => ?_) fun e s' hs => ?_
  · cases fl with
    | ret u =>
      obtain ⟨v', σ', H', J, rv, d', M', r', z⟩ := hs
      exact ⟨u, v', d', M', H', rfl, J.os, J.bare, J.base, J.hok, rv, r', z⟩
    | next => exact (let ⟨_, _, _, z⟩ := hs; False.elim z)
    | brk => exact (let ⟨_, _, _, z⟩ := hs; False.elim z)
    | cont => exact (let ⟨_, _, _, z⟩ := hs; False.elim z)
  · exact wpAny_mono hs (fun _ _ z => False.elim z) fun _ _ z => False.elim z

/-- what the top left, the script alone tracked -/
theorem script_heap {P : Program} {w : World} {K : PySem.W.Frag} {s₁ : Shared} {a : Addr} {vs : List Value} {ns : List Int} (KX : K.In s₁.heap) (ha : s₁.heap.get? a = some { cls := .type "list", data := .seq vs.toArray }) (hi : IntsAre vs ns) (hl : ns.length ≤ sizeLine) :
    ∃ H : Hp, Only H ∧ SqL K H a (ns.map V.int) ∧ HOk P w H s₁.heap ∧ (∀ b, H b ≠ none → b = a) ∧ (H a ≠ none → K.lookup a = none) := by
  have rv := vals_ints hi
  have hlv := hi.length
  cases hk : K.lookup a with
  | some o =>
    have same := KX a o hk
    rw [ha] at same
    cases same
    refine ⟨fun _ => none, fun _ => Or.inl rfl, Or.inr ⟨_, vs.toArray, _, hk, rfl, rfl, rfl, ?_, by simpa using rv⟩, fun b u z => ?_, fun b z => (z rfl).elim, fun z => (z rfl).elim⟩
    · rw [List.size_toArray, hlv]
      exact hl
    · exact nomatch (show (none : Option HO) = some u from z)
  | none =>
    have at_a : (fun b => if b = a then some (HO.frz { cls := .type "list", data := .seq vs.toArray } (.lst (ns.map V.int))) else none) a = some (HO.frz { cls := .type "list", data := .seq vs.toArray } (.lst (ns.map V.int))) := if_pos rfl
    refine ⟨fun b => if b = a then some (.frz { cls := .type "list", data := .seq vs.toArray } (.lst (ns.map V.int))) else none, fun b => ?_, Or.inl (Or.inr ⟨_, at_a⟩), fun b u z => ?_, fun b z => ?_, fun _ => rfl⟩
    · by_cases e : b = a
      · subst e
        exact Or.inr ⟨_, _, at_a⟩
      · exact Or.inl (if_neg e)
    · by_cases e : b = a
      · subst e
        have z2 := at_a.symm.trans z
        cases z2
        exact ⟨ha, by rw [List.length_map]; exact hl, vs, _, rv, ha⟩
      · exact nomatch (if_neg e).symm.trans z
    · by_cases e : b = a
      · exact e
      · exact (z (if_neg e)).elim
/-- the law's def, called with the script; its body read over data gives True -/
theorem law_data {P : Program} {w : World} {K : PySem.W.Frag} {mg mb : Str → Option Value} {x qual y : Str} {st : Stmt} {f a : Addr} {fd : FuncData} {N : List Str} {k : Nat} {b : DS} {s₁ : Shared} {vs : List Value} {ns : List Int}
    (KX : K.In s₁.heap) (hns : s₁.heap.Ns mainGlobals mg) (hb : s₁.heap.Ns builtinsNs mb) (hbb : ∀ x : Str, x ≠ "__name__" → mb x = bootBuiltins x) (hlim : s₁.heap.NoLimit) (hg : s₁.gens = #[])
    (ha : s₁.heap.get? a = some { cls := .type "list", data := .seq vs.toArray }) (hi : IntsAre vs ns) (hl : ns.length ≤ sizeLine) (F : Fun K x qual st f fd) (S : FnScope N [y] (defScope st)) (hr : L2.Room (k + 1) callerA) (hbind : ∀ (s : Shared) (u : Value), BindsTo s fd ⟨[u], []⟩ [(y, u)])
    (body : ∀ base : Heap, K.In base → base.Ns mainGlobals mg → ∀ (H : Hp) (cdv : Value), JSs (cxOf CX0 P w K mg base N qual (defScope st) f cdv callerA [] s₁ H E0).nox (defBody st) b)
    (q : b { nx := fun _ _ => False, rt := fun d _ => d = .bl true } (enter N.length [.fz (ns.map D.int)]) fun _ => none) :
    codeAny (model P w) callerA (.call (.ref f) ⟨[.ref a], []⟩) (fun r s' => r = .ok (.ret (.bool true)) ∧ OldK s₁.heap s'.heap ∧ s'.os = s₁.os ∧ AllBare s'.gens) s₁ := by
  obtain ⟨H, hO, hS, hok, hA, hK⟩ := script_heap (P := P) (w := w) KX ha hi hl
  have only_a : ∀ {b : Addr}, b ≠ a → H b = none := fun {b} ne => by
    cases q : H b with
    | none => rfl
    | some u => exact (ne (hA b (by rw [q]; exact fun z => nomatch z))).elim
  have dicts : ∀ {b : Addr} {m : Str → Option Value}, s₁.heap.Ns b m → (hidT s₁.heap H).Ns b m := fun {b m} ⟨o, es, ep, look, dat, r⟩ => by
    refine ⟨o, es, ep, hidT_get look (only_a fun e => ?_), dat, r⟩
    subst e
    rw [ha] at look
    cases look
    cases dat
  have inK : K.In (hidT s₁.heap H) := fun b o e => by
    refine hidT_get (KX b o e) ?_
    cases q : H b with
    | none => rfl
    | some u =>
      have ne : H b ≠ none := by rw [q]; exact fun z => nomatch z
      have e' := hA b ne
      subst e'
      rw [hK ne] at e
      cases e
  have limits : (hidT s₁.heap H).NoLimit := let ⟨mc, h1, h2⟩ := hlim; ⟨mc, dicts h1, h2⟩
  have e0 : Env0 P w K mg (hidT s₁.heap H) callerA [] s₁ H := by
    refine ⟨rfl, ⟨inK, dicts hns, ⟨mb, dicts hb, hbb⟩, limits⟩, fun b o e => of_hidT e, Nat.le_of_eq (hidT_size _ _), trivial, fun b hb => ?_, hok, .of_eq hg⟩
    exact (List.not_mem_nil (a := b) hb).elim
  have there : Rep K (fun _ => none) H (.ref a) (.fz (ns.map D.int)) := by
    refine .fz ?_ RepA.of_ints
    rcases hS with z | z
    · exact .inl ⟨z, rfl⟩
    · exact .inr z
  refine codeAny_mono (called_top F S hr e0 (hbind s₁ (.ref a)) rfl (fun cdv => body _ inK (dicts hns) H cdv) (fun _ _ z => by cases z) there q) ?_
  rintro r s' ⟨u, v', d', M', H', rfl, os, bare, un, hok', rv, rp, rfl⟩
  cases rp
  obtain rfl : u = Value.bool true := rv
  refine ⟨rfl, OldK.of_keep fun b o e => ?_, os, bare⟩
  cases q : H b with
  | none => exact un.keep b o e q (List.not_mem_nil) (List.not_mem_nil)
  | some u =>
    rcases hO b with z | ⟨ob, xs, z⟩
    · rw [q] at z
      cases z
    · have z1 := (hok b _ z).1
      have z2 := (hok' b _ (un.frzs b ob _ z)).1
      rw [e] at z1
      cases z1
      exact z2
/-- what k_head leaves open (case hc) -/
theorem walk_data {l : PySem.W.OpenLaw} {n k : Nat} {q : Program} {loose : List Str} {XP : (Str → Option Value) → Heap → Prop} {YP : World → Heap → Prop} {d : DefRec} {K : Params → PySem.W.Frag} {x qual y : Str} {st : Stmt} {N : List Str} {b : DS}
    (hn : l.most = some n) (hn2 : n ≤ sizeLine) (hdf : d.params.defaults = []) (hr : L2.Room (k + 1) callerA) (hY : ∀ (w : World) (h : Heap), YP w h → (K w.params).In h) (S : FnScope N [y] (defScope st))
    (F : ∀ (w : World) (mg : Str → Option Value) (fa : Addr) (h : Heap), (K w.params).In h → h.Ns mainGlobals mg → mg d.name = some (.ref fa) →
      ∃ fd : FuncData, Fun (K w.params) x qual st fa fd ∧ (∀ (s : Shared) (u : Value), BindsTo s fd ⟨[u], []⟩ [(y, u)]) ∧
        ∀ (base : Heap), (K w.params).In base → base.Ns mainGlobals mg → ∀ (s : Shared) (H : Hp) (cdv : Value), JSs (cxOf CX0 l.prog w (K w.params) mg base N qual (defScope st) fa cdv callerA [] s H E0).nox (defBody st) b)
    (hsp : ∀ ns : List Int, ns.length ≤ n → b { nx := fun _ _ => False, rt := fun d _ => d = .bl true } (enter N.length [.fz (ns.map D.int)]) fun _ => none) :
    PySem.W.WalkO q loose XP YP l.row.toRowW d [] (fun f vs => PySem.call f vs) := by
  refine Att.attach_call hn hdf ?_
  intro w s₀ s₁ mg mb fa o pm cd doc a vs ns G Y ho hd hcd hmg hobj hints hlen hg
  obtain ⟨fd, hF, hb, body⟩ := F w mg fa _ (hY w _ Y) G.T.g hmg
  exact law_data (hY w _ Y) G.T.g G.T.b G.T.builtins G.T.nolimit hg hobj hints (Nat.le_trans hlen hn2) hF S hr hb (fun base h1 h2 H cdv => body base h1 h2 s₁ H cdv) (hsp ns hlen)
end DL

set_option Elab.async false
set_option linter.all false
set_option maxRecDepth 100000
set_option maxHeartbeats 4000000
/-! The data layer, part j: readings that touch no memory. -/
namespace DL
open PySem PySem.Spec L2

/-- a tuple of ints -/
abbrev tI (c : List Int) : D := .tup (c.map D.int)
/-- a comprehension whose parts leave the memory as it is -/
theorem lc_pureL {ι : DI} {g : DG} {t : DT} {e : DE} {vs : List Nat} {σ : Env} {M : Mm} {Q : DK} (items : List D) (f : D → Option D) (hι : ∀ R : DIK, (∀ ok : Mm → Prop, (∀ M', Sub M M' → ok M') → R items ok M) → ι σ M R) (hl : items.length ≤ sizeLine)
    (hs : ∀ (x : D) (M' : Mm), x ∈ items → Sub M M' → ∀ (K1 : DK) (K0 : Mm → Prop), (∀ y, f x = some y → K1 y M') → (f x = none → K0 M') → g x (wipeD σ vs) M' fun σ2 M2 => t σ2 M2 fun k M3 => if k = true then e σ2 M3 K1 else K0 M3)
    (q : Q (.lst (items.filterMap f)) M) : xLc ι g t e vs σ M Q := by
  unfold xLc xLcM
  refine hι _ fun ok hok p np => ⟨fun i acc M' => acc = (items.take i).filterMap f ∧ M' = M.upd p (.lst acc), ⟨by simp, rfl⟩, ?_, ?_⟩
  · rintro i x acc M' hx ⟨rfl, rfl⟩
    have hlt := (List.getElem?_eq_some_iff.mp hx).1
    have tk : items.take (i + 1) = items.take i ++ [x] := by
      rw [List.take_succ, hx]
      rfl
    refine ⟨hok _ (Sub.new np Sub.refl), Mm.upd_same, hs x _ (List.mem_of_getElem? hx) (Sub.new np Sub.refl) _ _ (fun y hf => ?_) fun hf => ?_⟩
    · have e1 : (items.take (i + 1)).filterMap f = (items.take i).filterMap f ++ [y] := by
        rw [tk, List.filterMap_append]
        simp [hf]
      refine ⟨Mm.upd_same, ?_, e1.symm, Mm.upd_upd⟩
      have := List.length_filterMap_le f (items.take i)
      rw [List.length_take] at this
      omega
    · refine ⟨?_, rfl⟩
      rw [tk, List.filterMap_append]
      simp [hf]
  · rintro acc M' ⟨rfl, rfl⟩
    refine ⟨hok _ (Sub.new np Sub.refl), Mm.upd_same, _, Mm.upd_same, ?_⟩
    rw [Mm.del_upd np, List.take_length]
    exact q
theorem lc_pure {ι : DI} {g : DG} {t : DT} {e : DE} {vs : List Nat} {σ : Env} {M : Mm} {Q : DK} (items : List D) (f : D → Option D) (hι : ∀ R : DIK, R items (fun _ => True) M → ι σ M R) (hl : items.length ≤ sizeLine)
    (hs : ∀ (x : D) (M' : Mm), x ∈ items → Sub M M' → ∀ (K1 : DK) (K0 : Mm → Prop), (∀ y, f x = some y → K1 y M') → (f x = none → K0 M') → g x (wipeD σ vs) M' fun σ2 M2 => t σ2 M2 fun k M3 => if k = true then e σ2 M3 K1 else K0 M3)
    (q : Q (.lst (items.filterMap f)) M) : xLc ι g t e vs σ M Q :=
  lc_pureL items f (fun R h => hι R (h _ fun _ _ => trivial)) hl hs q
theorem iSeq_listD {a : DE} {σ : Env} {M : Mm} {items : List D} (d : D) (ha : ∀ K : DK, K d M → a σ M K) (hd : listD d M = some items) (R : DIK) (h : ∀ ok : Mm → Prop, (∀ M', Sub M M' → ok M') → R items ok M) : iSeq a σ M R := by
  unfold iSeq
  refine ha _ ?_
  cases d with
  | lst xs =>
    cases hd
    exact h _ fun _ _ => trivial
  | fz xs =>
    cases hd
    exact h _ fun _ _ => trivial
  | ptr p =>
    unfold listD at hd
    simp only at hd
    cases e : M p with
    | none => rw [e] at hd; cases hd
    | some c =>
      rw [e] at hd
      cases c with
      | lst xs =>
        cases hd
        exact ⟨_, e, h _ fun M' s => s _ _ e⟩
      | dK _ => cases hd
      | dT _ => cases hd
  | _ => cases hd
theorem fm_some {α β : Type} {g : α → β} : ∀ {l : List α}, l.filterMap (fun y => some (g y)) = l.map g
  | [] => rfl
  | x :: l => by rw [List.filterMap_cons, List.map_cons, fm_some]
/-- with two clauses -/
theorem lc2_pure {ι ι1 : DI} {g g1 : DG} {t t1 : DT} {e : DE} {vs vs1 : List Nat} {σ : Env} {M : Mm} {Q : DK} (items : List D) (it1 : D → List D) (f : D → D → Option D) (Good : D → Env → Prop) (hι : ∀ R : DIK, R items (fun _ => True) M → ι σ M R)
    (hl : (items.flatMap fun x => (it1 x).filterMap (f x)).length ≤ sizeLine)
    (hs : ∀ (x : D) (M' : Mm), x ∈ items → Sub M M' → ∀ (C : Env → DIK), (∀ σ2, Good x σ2 → C σ2 (it1 x) (fun _ => True) M') → ∀ K0 : Mm → Prop, g x (wipeD σ vs) M' fun σ2 M2 => t σ2 M2 fun k M3 => if k = true then ι1 σ2 M3 (C σ2) else K0 M3)
    (hs1 : ∀ (x y : D) (M' : Mm) (σ2 : Env), x ∈ items → y ∈ it1 x → Good x σ2 → Sub M M' → ∀ (K1 : DK) (K0 : Mm → Prop), (∀ z, f x y = some z → K1 z M') → (f x y = none → K0 M') → g1 y (wipeD σ2 vs1) M' fun σ3 M2 => t1 σ3 M2 fun k M3 => if k = true then e σ3 M3 K1 else K0 M3)
    (q : Q (.lst (items.flatMap fun x => (it1 x).filterMap (f x))) M) : xLc2 ι g t ι1 g1 t1 e vs vs1 σ M Q := by
  unfold xLc2 xLc2M
  have total : ∀ (i : Nat) (x : D) (j : Nat), items[i]? = some x → ((items.take i).flatMap (fun x => (it1 x).filterMap (f x))).length + ((it1 x).take j |>.filterMap (f x)).length ≤ (items.flatMap fun x => (it1 x).filterMap (f x)).length := by
    intro i x j hx
    have e1 : items = items.take i ++ x :: items.drop (i + 1) := by
      have hlt := (List.getElem?_eq_some_iff.mp hx).1
      have h2 : items[i] = x := (List.getElem?_eq_some_iff.mp hx).2
      rw [← h2, ← List.drop_eq_getElem_cons hlt, List.take_append_drop]
    have e2 : (it1 x).filterMap (f x) = ((it1 x).take j).filterMap (f x) ++ ((it1 x).drop j).filterMap (f x) := by
      rw [← List.filterMap_append, List.take_append_drop]
    conv => rhs; rw [e1]
    rw [List.flatMap_append, List.length_append, List.flatMap_cons, List.length_append, e2, List.length_append]
    omega
  refine hι _ fun p np => ⟨fun i acc M' => acc = (items.take i).flatMap (fun x => (it1 x).filterMap (f x)) ∧ M' = M.upd p (.lst acc), ⟨by simp, rfl⟩, ?_, ?_⟩
  · rintro i x acc M' hx ⟨rfl, rfl⟩
    have tk : items.take (i + 1) = items.take i ++ [x] := by
      rw [List.take_succ, hx]
      rfl
    have nx : (items.take (i + 1)).flatMap (fun x => (it1 x).filterMap (f x)) = (items.take i).flatMap (fun x => (it1 x).filterMap (f x)) ++ (it1 x).filterMap (f x) := by
      rw [tk, List.flatMap_append, List.flatMap_cons, List.flatMap_nil, List.append_nil]
    refine ⟨trivial, Mm.upd_same, hs x _ (List.mem_of_getElem? hx) (Sub.new np Sub.refl) _ (fun σ2 good => ?_) _⟩
    refine ⟨fun j acc1 M' => acc1 = (items.take i).flatMap (fun x => (it1 x).filterMap (f x)) ++ ((it1 x).take j).filterMap (f x) ∧ M' = M.upd p (.lst acc1), ⟨by simp, rfl⟩, ?_, ?_⟩
    · rintro j y acc1 M1 hy ⟨rfl, rfl⟩
      have hlt := (List.getElem?_eq_some_iff.mp hy).1
      have tk1 : (it1 x).take (j + 1) = (it1 x).take j ++ [y] := by
        rw [List.take_succ, hy]
        rfl
      have room := total i x (j + 1) hx
      refine ⟨trivial, Mm.upd_same, hs1 x y _ σ2 (List.mem_of_getElem? hx) (List.mem_of_getElem? hy) good (Sub.new np Sub.refl) _ _ (fun z hf => ?_) fun hf => ?_⟩
      · have e1 : ((it1 x).take (j + 1)).filterMap (f x) = ((it1 x).take j).filterMap (f x) ++ [z] := by
          rw [tk1, List.filterMap_append]
          simp [hf]
        rw [e1, List.length_append, List.length_singleton] at room
        refine ⟨Mm.upd_same, ?_, ?_, Mm.upd_upd⟩
        · rw [List.length_append]
          omega
        · rw [e1, List.append_assoc]
      · refine ⟨?_, rfl⟩
        rw [tk1, List.filterMap_append]
        simp [hf]
    · rintro acc1 M1 ⟨rfl, rfl⟩
      rw [List.take_length]
      exact ⟨trivial, nx.symm, rfl⟩
  · rintro acc M' ⟨rfl, rfl⟩
    refine ⟨trivial, Mm.upd_same, _, Mm.upd_same, ?_⟩
    rw [Mm.del_upd np, List.take_length]
    exact q

/-! ### simple readings -/
section
variable {M : Mm} {Q : DK}
theorem kLen_tup {xs : List D} : kLen (.tup xs) M Q = Q (.int xs.length) M := propext ⟨fun ⟨n, h, q⟩ => by cases h; exact q, fun q => ⟨_, rfl, q⟩⟩
theorem kLen_lst {xs : List D} : kLen (.lst xs) M Q = Q (.int xs.length) M := propext ⟨fun ⟨n, h, q⟩ => by cases h; exact q, fun q => ⟨_, rfl, q⟩⟩
theorem kLen_tI {c : List Int} : kLen (tI c) M Q = Q (.int c.length) M := by rw [kLen_tup, List.length_map]
theorem kLen_ptr {p : Addr} {xs : List D} (h : M p = some (.lst xs)) : kLen (.ptr p) M Q = Q (.int xs.length) M := by
  have e : lenD (.ptr p) M = some (xs.length : Int) := by
    unfold lenD seqD
    simp [h]
  exact propext ⟨fun ⟨n, h, q⟩ => by rw [e] at h; cases h; exact q, fun q => ⟨_, e, q⟩⟩
theorem atI_nat {α : Type} {xs : List α} {k : Nat} (h : k < xs.length) : atI xs (k : Int) = xs[k]? := by
  unfold atI ixN
  rw [if_pos (by omega), if_pos (by omega), Int.toNat_natCast]
  rfl
theorem atI_last {α : Type} {xs : List α} {x : α} : atI (xs ++ [x]) (-1) = some x := by
  unfold atI ixN
  rw [if_neg (by omega), List.length_append, List.length_singleton, if_pos (by omega)]
  have e : ((-1 : Int) + ((xs.length + 1 : Nat) : Int)).toNat = xs.length := by omega
  show (xs ++ [x])[((-1 : Int) + ((xs.length + 1 : Nat) : Int)).toNat]? = some x
  rw [e]
  simp
theorem oIx_tup {xs : List D} {k : Nat} {x : D} (h : xs[k]? = some x) (q : Q x M) : oIx (.tup xs) (.int (k : Int)) M Q :=
  ⟨xs, x, rfl, by rw [atI_nat (List.getElem?_eq_some_iff.mp h).1, h], q⟩
theorem oIx_lst {xs : List D} {k : Nat} {x : D} (h : xs[k]? = some x) (q : Q x M) : oIx (.lst xs) (.int (k : Int)) M Q :=
  ⟨xs, x, rfl, by rw [atI_nat (List.getElem?_eq_some_iff.mp h).1, h], q⟩
theorem oIx_ptr {p : Addr} {xs : List D} {k : Nat} {x : D} (hp : M p = some (.lst xs)) (h : xs[k]? = some x) (q : Q x M) : oIx (.ptr p) (.int (k : Int)) M Q :=
  ⟨xs, x, by unfold seqD; simp [hp], by rw [atI_nat (List.getElem?_eq_some_iff.mp h).1, h], q⟩
theorem oIx_tI {c : List Int} {k : Nat} (h : k < c.length) : oIx (tI c) (.int (k : Int)) M Q = Q (.int (c[k]'h)) M := by
  have e : (c.map D.int)[k]? = some (.int (c[k]'h)) := by rw [List.getElem?_map, List.getElem?_eq_getElem h]; rfl
  refine propext ⟨fun z => ?_, fun q => oIx_tup e q⟩
  obtain ⟨xs, x, h1, h2, q⟩ := z
  cases h1
  rw [atI_nat (by rw [List.length_map]; exact h), e] at h2
  cases h2
  exact q
theorem wf_tI (n : Nat) (c : List Int) : (tI c).wf (n + 1) = true := by
  show (c.map D.int).all (D.wf n) = true
  rw [List.all_map, List.all_eq_true]
  intro x _
  cases n <;> rfl
theorem std_tI (n : Nat) (c : List Int) : (tI c).std (n + 1) = true := by
  show (c.map D.int).all (D.std n) = true
  rw [List.all_map, List.all_eq_true]
  intro x _
  cases n <;> rfl
theorem ints_inj {a b : List Int} (h : a.map D.int = b.map D.int) : a = b := by
  induction a generalizing b with
  | nil => cases b with
    | nil => rfl
    | cons _ _ => cases h
  | cons x a ih => cases b with
    | nil => cases h
    | cons y b =>
      rw [List.map_cons, List.map_cons] at h
      obtain ⟨h1, h2⟩ := List.cons.inj h
      cases h1
      rw [ih h2]
theorem tI_inj {a b : List Int} (h : tI a = tI b) : a = b := ints_inj (D.tup.inj h)
theorem eqB_tI (a b : List Int) : eqB (tI a) (tI b) = decide (a = b) := by
  by_cases h : a = b
  · rw [decide_eq_true h, h]
    exact eqB_refl 2 _ (wf_tI 1 b)
  · rw [decide_eq_false h]
    exact eqB_ne (std_tI 1 a) (std_tI 1 b) fun e => h (tI_inj e)
theorem oEq_int {i j : Int} : oEq (.int i) (.int j) M Q = Q (.bl (decide (i = j))) M := by
  have e : eqB (.int i) (.int j) = decide (i = j) := by rw [eqB_int]; rfl
  refine propext ⟨fun z => ?_, fun q => ⟨rfl, rfl, by rw [e]; exact q⟩⟩
  have := z.2.2
  rw [e] at this
  exact this
theorem oNe_int {i j : Int} : oNe (.int i) (.int j) M Q = Q (.bl (!decide (i = j))) M := by
  have e : eqB (.int i) (.int j) = decide (i = j) := by rw [eqB_int]; rfl
  refine propext ⟨fun z => ?_, fun q => ⟨rfl, rfl, by rw [e]; exact q⟩⟩
  have := z.2.2
  rw [e] at this
  exact this
theorem oEq_tI {a b : List Int} : oEq (tI a) (tI b) M Q = Q (.bl (decide (a = b))) M :=
  propext ⟨fun z => by have := z.2.2; rw [eqB_tI] at this; exact this, fun q => ⟨wf_tI 59 a, wf_tI 59 b, by rw [eqB_tI]; exact q⟩⟩
theorem oNe_tI {a b : List Int} : oNe (tI a) (tI b) M Q = Q (.bl (!decide (a = b))) M :=
  propext ⟨fun z => by have := z.2.2; rw [eqB_tI] at this; exact this, fun q => ⟨wf_tI 59 a, wf_tI 59 b, by rw [eqB_tI]; exact q⟩⟩
theorem oAdd_int {i j : Int} : oAdd (.int i) (.int j) M Q = Q (.int (i + j)) M := rfl
theorem oAdd_tup {xs ys : List D} : oAdd (.tup xs) (.tup ys) M Q = (xs.length + ys.length ≤ sizeLine ∧ Q (.tup (xs ++ ys)) M) := rfl
end
/-! ### loops -/
theorem for_items {ι : DI} {g : DG} {b : DS} {R : DEnds} {σ : Env} {M : Mm} (items : List D) (hι : ∀ K : DIK, K items (fun _ => True) M → ι σ M K) (I : Nat → Env → Mm → Prop) (h0 : I 0 σ M)
    (hs : ∀ (i : Nat) (x : D) σ M, items[i]? = some x → I i σ M → g x σ M fun σ1 M2 => b { R with nx := I (i + 1), ct := I (i + 1), bk := R.nx } σ1 M2) (hd : ∀ σ M, I items.length σ M → R.nx σ M) : zFor ι g b R σ M :=
  hι _ ⟨I, h0, fun i x σ M hx hI => ⟨trivial, hs i x σ M hx hI⟩, fun σ M hI => ⟨trivial, hd σ M hI⟩⟩
theorem rangeD_get {n : Nat} {i : Nat} {x : D} (h : (rangeD 0 (n : Int))[i]? = some x) : i < n ∧ x = .int (i : Nat) := by
  unfold rangeD at h
  rw [List.getElem?_map] at h
  obtain ⟨k, hk, rfl⟩ := Option.map_eq_some_iff.mp h
  obtain ⟨h1, h2⟩ := List.getElem?_eq_some_iff.mp hk
  rw [List.length_range] at h1
  rw [List.getElem_range] at h2
  subst h2
  exact ⟨by omega, by rw [Int.zero_add]⟩
theorem rangeD_len (n : Nat) : (rangeD 0 (n : Int)).length = n := by
  unfold rangeD
  rw [List.length_map, List.length_range]
  omega
theorem rng_nat {n : Nat} (h : n < 2 ^ 62) : rngOk (n : Int) := ⟨by omega, by exact_mod_cast h⟩
theorem for_range {a : DA} {g : DG} {b : DS} {R : DEnds} {σ : Env} {M : Mm} (n : Nat) (hn : n < 2 ^ 62) (ha : ∀ K : List D → Mm → Prop, K [.int (n : Int)] M → a σ M K) (I : Nat → Env → Mm → Prop) (h0 : I 0 σ M)
    (hs : ∀ (i : Nat) σ M, i < n → I i σ M → g (.int (i : Nat)) σ M fun σ1 M2 => b { R with nx := I (i + 1), ct := I (i + 1), bk := R.nx } σ1 M2) (hd : ∀ σ M, I n σ M → R.nx σ M) : zFor (iRange1 a) g b R σ M := by
  refine for_items (rangeD 0 (n : Int)) (fun K k => ha _ ⟨rng_nat hn, k⟩) I h0 (fun i x σ M hx hI => ?_) (fun σ M hI => hd σ M ?_)
  · obtain ⟨lt, rfl⟩ := rangeD_get hx
    exact hs i σ M lt hI
  · rw [rangeD_len] at hI
    exact hI
/-- what a def hands back as it is -/
theorem gone_same {M M' : Mm} {R : DK} {d : D} (s : Sub M M') (q : R d M) : ∃ e M2, Gone M' M2 d e ∧ R e M2 := ⟨d, M, .same s, q⟩

/-! ### order -/
/-- the signs by which a datum is ordered -/
abbrev tok (d : D) : List (Int ⊕ List Nat) := PySem.W.keyToks d.py
theorem toksI : ∀ {a b : List Int} {l m : List (Int ⊕ List Nat)}, PySem.W.keyToksAll (pys (a.map D.int)) ++ l = PySem.W.keyToksAll (pys (b.map D.int)) ++ m → a = b ∧ l = m
  | [], [], l, m, h => by
    simp only [List.map_nil, pys, PySem.W.keyToksAll, List.cons_append, List.nil_append] at h
    exact ⟨rfl, (List.cons.inj h).2⟩
  | [], y :: b, l, m, h => by
    simp only [List.map_nil, List.map_cons, pys, PySem.W.keyToksAll, List.cons_append, List.nil_append] at h
    exact absurd (List.cons.inj h).1 (by decide)
  | x :: a, [], l, m, h => by
    simp only [List.map_nil, List.map_cons, pys, PySem.W.keyToksAll, List.cons_append, List.nil_append] at h
    exact absurd (List.cons.inj h).1 (by decide)
  | x :: a, y :: b, l, m, h => by
    simp only [List.map_cons, pys, D.py, PySem.W.keyToksAll, PySem.W.keyToks, List.cons_append, List.nil_append] at h
    have h2 := List.cons.inj (List.cons.inj h).2
    obtain ⟨e1, e2⟩ := toksI h2.2
    have e3 : x = y := by simpa using h2.1
    exact ⟨by rw [e1, e3], e2⟩
theorem tok_tI {a b : List Int} (h : tok (tI a) = tok (tI b)) : a = b := by
  have h' : PySem.W.keyToksAll (pys (a.map D.int)) = PySem.W.keyToksAll (pys (b.map D.int)) := by
    simpa only [tok, D.py, PySem.W.keyToks] using h
  exact (toksI (l := []) (m := []) (by rw [List.append_nil, List.append_nil]; exact h')).1
/-- a row of such tuples -/
theorem toksT : ∀ {as bs : List (List Int)} {l m : List (Int ⊕ List Nat)}, PySem.W.keyToksAll (pys (as.map tI)) ++ l = PySem.W.keyToksAll (pys (bs.map tI)) ++ m → as = bs ∧ l = m
  | [], [], l, m, h => by
    simp only [List.map_nil, pys, PySem.W.keyToksAll, List.cons_append, List.nil_append] at h
    exact ⟨rfl, (List.cons.inj h).2⟩
  | [], y :: b, l, m, h => by
    simp only [List.map_nil, List.map_cons, pys, PySem.W.keyToksAll, List.cons_append, List.nil_append] at h
    exact absurd (List.cons.inj h).1 (by decide)
  | x :: a, [], l, m, h => by
    simp only [List.map_nil, List.map_cons, pys, PySem.W.keyToksAll, List.cons_append, List.nil_append] at h
    exact absurd (List.cons.inj h).1 (by decide)
  | x :: a, y :: b, l, m, h => by
    simp only [List.map_cons, pys, D.py, PySem.W.keyToksAll, PySem.W.keyToks, List.cons_append, List.append_assoc] at h
    obtain ⟨e3, h2⟩ := toksI (List.cons.inj h).2
    obtain ⟨e1, e2⟩ := toksT h2
    exact ⟨by rw [e1, e3], e2⟩
abbrev tT (as : List (List Int)) : D := .tup (as.map tI)
theorem tok_tT {as bs : List (List Int)} (h : tok (tT as) = tok (tT bs)) : as = bs := by
  have h' : PySem.W.keyToksAll (pys (as.map tI)) = PySem.W.keyToksAll (pys (bs.map tI)) := by
    simpa only [tok, D.py, PySem.W.keyToks] using h
  exact (toksT (l := []) (m := []) (by rw [List.append_nil, List.append_nil]; exact h')).1
/-- sorted by the image -/
def leBy {α : Type} (f : α → D) : α → α → Bool := PySem.W.dataLe false fun a => (f a).py
theorem leBy_total {α : Type} (f : α → D) : PySem.W.TotalLe (leBy f) := PySem.W.sortLe_total (PyProof.Rows.listOrd PyProof.Rows.itemOrd) false fun a => tok (f a)
theorem leBy_anti {α : Type} {f : α → D} (inj : ∀ a b, tok (f a) = tok (f b) → a = b) {a b : α} (h1 : leBy f a b = true) (h2 : leBy f b a = true) : a = b := by
  have h1' : (!PySem.W.dataLt (f b).py (f a).py) = true := h1
  have h2' : (!PySem.W.dataLt (f a).py (f b).py) = true := h2
  rw [Bool.not_eq_true'] at h1' h2'
  exact inj a b ((PyProof.Rows.listOrd PyProof.Rows.itemOrd).total _ _ h2' h1')
/-- le and apart is lt -/
theorem leBy_lt {α : Type} {f : α → D} (inj : ∀ a b, tok (f a) = tok (f b) → a = b) {a b : α} (h1 : leBy f a b = true) (ne : a ≠ b) : PySem.W.dataLt (f a).py (f b).py = true := by
  cases h : PySem.W.dataLt (f a).py (f b).py with
  | true => rfl
  | false =>
    refine (ne (leBy_anti inj h1 ?_)).elim
    show (!PySem.W.dataLt (f a).py (f b).py) = true
    rw [h]
    rfl
def sortBy {α : Type} (f : α → D) (l : List α) : List α := l.mergeSort (leBy f)
theorem sortD_map {α : Type} (f : α → D) (l : List α) : sortD (l.map f) = (sortBy f l).map f :=
  (PySem.W.sort_maps f fun _ _ _ _ => rfl).symm
theorem sortBy_perm {α : Type} (f : α → D) (l : List α) : (sortBy f l).Perm l := List.mergeSort_perm _ _
theorem sortBy_sorted {α : Type} (f : α → D) (l : List α) : (sortBy f l).Pairwise (fun a b => leBy f a b = true) := PySem.W.sort_pairwise (leBy_total f) l
theorem sorted_one {α : Type} {f : α → D} (inj : ∀ a b, tok (f a) = tok (f b) → a = b) {xs ys : List α} (p : xs.Perm ys) (hx : xs.Pairwise (fun a b => leBy f a b = true)) (hy : ys.Pairwise (fun a b => leBy f a b = true)) : xs = ys :=
  List.Perm.eq_of_pairwise (fun a b _ _ h1 h2 => leBy_anti inj h1 h2) hx hy p
theorem alikeI : ∀ a b : List Int, PySem.W.alikeAll (pys (a.map D.int)) (pys (b.map D.int)) = true
  | [], _ => by simp [pys, PySem.W.alikeAll]
  | _ :: _, [] => by simp [pys, PySem.W.alikeAll]
  | x :: a, y :: b => by simp [pys, D.py, PySem.W.alikeAll, PySem.W.alike, alikeI a b]
theorem alike_tI (a b : List Int) : PySem.W.alike (tI a).py (tI b).py = true := by
  simp only [D.py, PySem.W.alike]
  exact alikeI a b
theorem alikeT : ∀ a b : List (List Int), PySem.W.alikeAll (pys (a.map tI)) (pys (b.map tI)) = true
  | [], _ => by simp [pys, PySem.W.alikeAll]
  | _ :: _, [] => by simp [pys, PySem.W.alikeAll]
  | x :: a, y :: b => by
    show PySem.W.alikeAll (D.py (tI x) :: pys (a.map tI)) (D.py (tI y) :: pys (b.map tI)) = true
    rw [PySem.W.alikeAll, alike_tI, alikeT a b]
    rfl
theorem alike_tT (a b : List (List Int)) : PySem.W.alike (tT a).py (tT b).py = true := by
  simp only [D.py, PySem.W.alike]
  exact alikeT a b
theorem wf_tT (n : Nat) (as : List (List Int)) : (tT as).wf (n + 2) = true := by
  show (as.map tI).all (D.wf (n + 1)) = true
  rw [List.all_map, List.all_eq_true]
  intro x _
  exact wf_tI n x
theorem std_tT (n : Nat) (as : List (List Int)) : (tT as).std (n + 2) = true := by
  show (as.map tI).all (D.std (n + 1)) = true
  rw [List.all_map, List.all_eq_true]
  intro x _
  exact std_tI n x
theorem allAlike_map {α : Type} (f : α → D) (l : List α) (h : ∀ a b, PySem.W.alike (f a).py (f b).py = true) : PySem.W.AllAlike ((l.map f).map D.py) := by
  rw [List.map_map]
  exact PySem.W.AllAlike.of (enc := D.py ∘ f) fun a b => h a b
theorem sortable_tups {α : Type} (f : α → D) (l : List α) (h : ∀ a ∈ l, ∃ x r, f a = .tup (x :: r)) : PySem.W.Sortable ((l.map f).map D.py) := by
  refine Or.inl fun d hd => ?_
  obtain ⟨e, he, rfl⟩ := List.mem_map.mp hd
  obtain ⟨a, ha, rfl⟩ := List.mem_map.mp he
  obtain ⟨x, r, e⟩ := h a ha
  exact ⟨x.py, pys r, by rw [e]; simp only [D.py, pys]⟩
/-- sorted(..) of a list that is an image -/
theorem kSorted_map {α : Type} {f : α → D} {l : List α} {d : D} {M : Mm} {Q : DK} (h : listD d M = some (l.map f)) (w : ∀ a, (f a).wf 60 = true) (al : ∀ a b, PySem.W.alike (f a).py (f b).py = true) (so : ∀ a ∈ l, ∃ x r, f a = .tup (x :: r)) (q : Q (.lst ((sortBy f l).map f)) M) : kSorted d M Q := by
  refine ⟨_, h, fun x hx => ?_, allAlike_map f l al, sortable_tups f l so, ?_⟩
  · obtain ⟨a, _, rfl⟩ := List.mem_map.mp hx
    exact w a
  · rw [sortD_map]
    exact q
end DL

set_option Elab.async false
set_option linter.all false
set_option maxRecDepth 100000
set_option maxHeartbeats 4000000
namespace K68
open PySem PySem.Spec L2 DL
/-! ### the text by places, the scopes -/
def topS (i : Nat) : Stmt := PySem.Challenge.pw_haltstoreys_k68_blind_tears.main.body.getD i (.Pass ⟨0, 0, 0, 0⟩)
abbrev s_all_mixtures : Stmt := topS 5
theorem sc_all_mixtures : FnScope ["old", "new", "mixed", "place", "parts", "content", "part"] ["old", "new"] (defScope s_all_mixtures) := ⟨rfl, rfl, rfl, by decide +kernel, rfl, by decide +kernel, by decide +kernel⟩
abbrev s_mixtures : Stmt := topS 6
theorem sc_mixtures : FnScope ["old", "new", "content"] ["old", "new"] (defScope s_mixtures) := ⟨rfl, rfl, rfl, by decide +kernel, rfl, by decide +kernel, by decide +kernel⟩
abbrev s_are_sizes : Stmt := topS 7
theorem sc_are_sizes : FnScope ["sizes", "product", "size"] ["sizes"] (defScope s_are_sizes) := ⟨rfl, rfl, rfl, by decide +kernel, rfl, by decide +kernel, by decide +kernel⟩
abbrev s_contents_of : Stmt := topS 8
theorem sc_contents_of : FnScope ["sizes", "contents", "size", "content", "value"] ["sizes"] (defScope s_contents_of) := ⟨rfl, rfl, rfl, by decide +kernel, rfl, by decide +kernel, by decide +kernel⟩
abbrev s_blind_tears : Stmt := topS 9
theorem sc_blind_tears : FnScope ["sizes", "values", "contents", "table", "place", "content", "found", "old", "new"] ["sizes", "values"] (defScope s_blind_tears) := ⟨rfl, rfl, rfl, by decide +kernel, rfl, by decide +kernel, by decide +kernel⟩
abbrev s__law_pool : Stmt := topS 11
theorem sc__law_pool : FnScope ["script", "cells", "cell"] ["script"] (defScope s__law_pool) := ⟨rfl, rfl, rfl, by decide +kernel, rfl, by decide +kernel, by decide +kernel⟩
abbrev s__law_take : Stmt := topS 12
theorem sc__law_take : FnScope ["pool", "many", "number", "turn", "cell"] ["pool", "many"] (defScope s__law_take) := ⟨rfl, rfl, rfl, by decide +kernel, rfl, by decide +kernel, by decide +kernel⟩
abbrev s__law_set : Stmt := topS 13
theorem sc__law_set : FnScope ["rows", "met", "row"] ["rows"] (defScope s__law_set) := ⟨rfl, rfl, rfl, by decide +kernel, rfl, by decide +kernel, by decide +kernel⟩
abbrev s__law_pair : Stmt := topS 14
theorem sc__law_pair : FnScope ["pool", "way", "many", "spot", "old", "new", "place", "value", "other"] ["pool"] (defScope s__law_pair) := ⟨rfl, rfl, rfl, by decide +kernel, rfl, by decide +kernel, by decide +kernel⟩
abbrev s__law_is_mixed : Stmt := topS 15
theorem sc__law_is_mixed : FnScope ["old", "new", "told", "due", "place", "at", "row"] ["old", "new", "told"] (defScope s__law_is_mixed) := ⟨rfl, rfl, rfl, by decide +kernel, rfl, by decide +kernel, by decide +kernel⟩
abbrev s__law_sizes : Stmt := topS 16
theorem sc__law_sizes : FnScope ["pool", "most", "wide", "many", "sizes", "room", "place"] ["pool", "most"] (defScope s__law_sizes) := ⟨rfl, rfl, rfl, by decide +kernel, rfl, by decide +kernel, by decide +kernel⟩
abbrev s__law_content : Stmt := topS 17
theorem sc__law_content : FnScope ["sizes", "number", "row", "size"] ["sizes", "number"] (defScope s__law_content) := ⟨rfl, rfl, rfl, by decide +kernel, rfl, by decide +kernel, by decide +kernel⟩
abbrev s__law_far_table : Stmt := topS 18
theorem sc__law_far_table : FnScope ["pool", "many", "values", "number", "turn", "at"] ["pool", "many"] (defScope s__law_far_table) := ⟨rfl, rfl, rfl, by decide +kernel, rfl, by decide +kernel, by decide +kernel⟩
abbrev s__law_table : Stmt := topS 19
theorem sc__law_table : FnScope ["pool", "sizes", "many", "way", "few", "step", "base", "factors", "values", "size", "number", "content", "value", "place"] ["pool", "sizes", "many"] (defScope s__law_table) := ⟨rfl, rfl, rfl, by decide +kernel, rfl, by decide +kernel, by decide +kernel⟩
abbrev s__law_near : Stmt := topS 20
theorem sc__law_near : FnScope ["pool", "values", "at", "other", "news"] ["pool", "values"] (defScope s__law_near) := ⟨rfl, rfl, rfl, by decide +kernel, rfl, by decide +kernel, by decide +kernel⟩
abbrev s__law_news : Stmt := topS 21
theorem sc__law_news : FnScope ["sizes", "content", "old", "rows", "place", "more", "row", "value"] ["sizes", "content", "old"] (defScope s__law_news) := ⟨rfl, rfl, rfl, by decide +kernel, rfl, by decide +kernel, by decide +kernel⟩
abbrev s__law_tears : Stmt := topS 22
theorem sc__law_tears : FnScope ["sizes", "values", "alike", "tears", "number", "row", "content", "old", "new"] ["sizes", "values"] (defScope s__law_tears) := ⟨rfl, rfl, rfl, by decide +kernel, rfl, by decide +kernel, by decide +kernel⟩
abbrev s_law : Stmt := topS 23
theorem sc_law : FnScope ["script", "pool", "pair", "old", "new", "rare", "many", "sizes", "size", "table", "near", "due", "turns", "turn", "told"] ["script"] (defScope s_law) := ⟨rfl, rfl, rfl, by decide +kernel, rfl, by decide +kernel, by decide +kernel⟩
/-! ### what the top has written -/
structure Tb (K : PySem.W.Frag) (mg : Str → Option Value) where
  a_all_mixtures : Addr
  fd_all_mixtures : FuncData
  F_all_mixtures : Fun K "all_mixtures" "all_mixtures" s_all_mixtures a_all_mixtures fd_all_mixtures
  B_all_mixtures : Binds K fd_all_mixtures ["old", "new"] []
  g_all_mixtures : mg "all_mixtures" = some (.ref a_all_mixtures)
  a_mixtures : Addr
  fd_mixtures : FuncData
  F_mixtures : Fun K "mixtures" "mixtures" s_mixtures a_mixtures fd_mixtures
  B_mixtures : Binds K fd_mixtures ["old", "new"] []
  g_mixtures : mg "mixtures" = some (.ref a_mixtures)
  a_are_sizes : Addr
  fd_are_sizes : FuncData
  F_are_sizes : Fun K "are_sizes" "are_sizes" s_are_sizes a_are_sizes fd_are_sizes
  B_are_sizes : Binds K fd_are_sizes ["sizes"] []
  g_are_sizes : mg "are_sizes" = some (.ref a_are_sizes)
  a_contents_of : Addr
  fd_contents_of : FuncData
  F_contents_of : Fun K "contents_of" "contents_of" s_contents_of a_contents_of fd_contents_of
  B_contents_of : Binds K fd_contents_of ["sizes"] []
  g_contents_of : mg "contents_of" = some (.ref a_contents_of)
  a_blind_tears : Addr
  fd_blind_tears : FuncData
  F_blind_tears : Fun K "blind_tears" "blind_tears" s_blind_tears a_blind_tears fd_blind_tears
  B_blind_tears : Binds K fd_blind_tears ["sizes", "values"] []
  g_blind_tears : mg "blind_tears" = some (.ref a_blind_tears)
  a__law_pool : Addr
  fd__law_pool : FuncData
  F__law_pool : Fun K "_law_pool" "_law_pool" s__law_pool a__law_pool fd__law_pool
  B__law_pool : Binds K fd__law_pool ["script"] []
  g__law_pool : mg "_law_pool" = some (.ref a__law_pool)
  a__law_take : Addr
  fd__law_take : FuncData
  F__law_take : Fun K "_law_take" "_law_take" s__law_take a__law_take fd__law_take
  B__law_take : Binds K fd__law_take ["pool", "many"] []
  g__law_take : mg "_law_take" = some (.ref a__law_take)
  a__law_set : Addr
  fd__law_set : FuncData
  F__law_set : Fun K "_law_set" "_law_set" s__law_set a__law_set fd__law_set
  B__law_set : Binds K fd__law_set ["rows"] []
  g__law_set : mg "_law_set" = some (.ref a__law_set)
  a__law_pair : Addr
  fd__law_pair : FuncData
  F__law_pair : Fun K "_law_pair" "_law_pair" s__law_pair a__law_pair fd__law_pair
  B__law_pair : Binds K fd__law_pair ["pool"] []
  g__law_pair : mg "_law_pair" = some (.ref a__law_pair)
  a__law_is_mixed : Addr
  fd__law_is_mixed : FuncData
  F__law_is_mixed : Fun K "_law_is_mixed" "_law_is_mixed" s__law_is_mixed a__law_is_mixed fd__law_is_mixed
  B__law_is_mixed : Binds K fd__law_is_mixed ["old", "new", "told"] []
  g__law_is_mixed : mg "_law_is_mixed" = some (.ref a__law_is_mixed)
  a__law_sizes : Addr
  fd__law_sizes : FuncData
  F__law_sizes : Fun K "_law_sizes" "_law_sizes" s__law_sizes a__law_sizes fd__law_sizes
  B__law_sizes : Binds K fd__law_sizes ["pool", "most"] []
  g__law_sizes : mg "_law_sizes" = some (.ref a__law_sizes)
  a__law_content : Addr
  fd__law_content : FuncData
  F__law_content : Fun K "_law_content" "_law_content" s__law_content a__law_content fd__law_content
  B__law_content : Binds K fd__law_content ["sizes", "number"] []
  g__law_content : mg "_law_content" = some (.ref a__law_content)
  a__law_far_table : Addr
  fd__law_far_table : FuncData
  F__law_far_table : Fun K "_law_far_table" "_law_far_table" s__law_far_table a__law_far_table fd__law_far_table
  B__law_far_table : Binds K fd__law_far_table ["pool", "many"] []
  g__law_far_table : mg "_law_far_table" = some (.ref a__law_far_table)
  a__law_table : Addr
  fd__law_table : FuncData
  F__law_table : Fun K "_law_table" "_law_table" s__law_table a__law_table fd__law_table
  B__law_table : Binds K fd__law_table ["pool", "sizes", "many"] []
  g__law_table : mg "_law_table" = some (.ref a__law_table)
  a__law_near : Addr
  fd__law_near : FuncData
  F__law_near : Fun K "_law_near" "_law_near" s__law_near a__law_near fd__law_near
  B__law_near : Binds K fd__law_near ["pool", "values"] []
  g__law_near : mg "_law_near" = some (.ref a__law_near)
  a__law_news : Addr
  fd__law_news : FuncData
  F__law_news : Fun K "_law_news" "_law_news" s__law_news a__law_news fd__law_news
  B__law_news : Binds K fd__law_news ["sizes", "content", "old"] []
  g__law_news : mg "_law_news" = some (.ref a__law_news)
  a__law_tears : Addr
  fd__law_tears : FuncData
  F__law_tears : Fun K "_law_tears" "_law_tears" s__law_tears a__law_tears fd__law_tears
  B__law_tears : Binds K fd__law_tears ["sizes", "values"] []
  g__law_tears : mg "_law_tears" = some (.ref a__law_tears)
  a_law : Addr
  fd_law : FuncData
  F_law : Fun K "law" "law" s_law a_law fd_law
  B_law : Binds K fd_law ["script"] []
  g_law : mg "law" = some (.ref a_law)
  z_abs : mg "abs" = none
  z_bool : mg "bool" = none
  z_enumerate : mg "enumerate" = none
  z_int : mg "int" = none
  z_isinstance : mg "isinstance" = none
  z_len : mg "len" = none
  z_list : mg "list" = none
  z_max : mg "max" = none
  z_min : mg "min" = none
  z_range : mg "range" = none
  z_repr : mg "repr" = none
  z_sorted : mg "sorted" = none
  z_sum : mg "sum" = none
  z_tuple : mg "tuple" = none
  c_CONTENTS : ∃ t, mg "CONTENTS" = some (.int 600 t)
/-! ### the bodies -/
def b_all_mixtures : DS :=
    zSeq (zSet 2 (xLst (aCons (xTup (aNil)) (aNil)))) (
    zSeq (zFor (iRange1 (aCons (xB (c1 kLen) (aCons (xV 0) (aNil))) (aNil))) (yN 3) (zSeq (zSet 4 (xIf (xTst (xOp oEq (xOp oIx (xV 0) (xV 3)) (xOp oIx (xV 1) (xV 3)))) (xTup (aCons (xOp oIx (xV 0) (xV 3)) (aNil))) (xTup (aCons (xOp oIx (xV 0) (xV 3)) (aCons (xOp oIx (xV 1) (xV 3)) (aNil)))))) (
    zSet 2 (xLc2 (iSeq (xV 2)) (yN 5) (xYes) (iSeq (xV 4)) (yN 6) (xYes) (xOp oAdd (xV 5) (xTup (aCons (xV 6) (aNil)))) [5, 6] [6])))) (
    zRet (xB (c1 kTuple) (aCons (xV 2) (aNil)))))
def b_mixtures (p_all_mixtures : DSp) : DS :=
    zRet (xB (c1 kTuple) (aCons (xB (c1 kSorted) (aCons (xLc (iSeq (xCall p_all_mixtures (aCons (xV 0) (aCons (xV 1) (aNil))))) (yN 2) (xAnd (xTst (xOp oNe (xV 2) (xV 0))) (xTst (xOp oNe (xV 2) (xV 1)))) (xV 2) [2]) (aNil))) (aNil)))
def b_are_sizes : DS :=
    zSeq (zIf (xNot (xTst (xChain oLe oLe (xC (.int 1)) (xB (c1 kLen) (aCons (xV 0) (aNil))) (xC (.int 6))))) (zRet (xC (.bl false))) (zSkip)) (
    zSeq (zSet 1 (xC (.int 1))) (
    zSeq (zFor (iSeq (xV 0)) (yN 2) (zSeq (zIf (xNot (xTst (xChain oLe oLe (xC (.int 2)) (xV 2) (xC (.int 9))))) (zRet (xC (.bl false))) (zSkip)) (
    zSet 1 (xOp oMul (xV 1) (xV 2))))) (
    zRet (xOp oLe (xV 1) (xC (.int 600))))))
def b_contents_of : DS :=
    zSeq (zSet 1 (xLst (aCons (xTup (aNil)) (aNil)))) (
    zSeq (zFor (iSeq (xRev (xV 0))) (yN 2) (zSet 1 (xLc2 (iSeq (xV 1)) (yN 3) (xYes) (iRange1 (aCons (xV 2) (aNil))) (yN 4) (xYes) (xOp oAdd (xTup (aCons (xV 4) (aNil))) (xV 3)) [3, 4] [4]))) (
    zRet (xB (c1 kTuple) (aCons (xV 1) (aNil)))))
def b_blind_tears (p_are_sizes p_contents_of p_mixtures : DSp) : DS :=
    zSeq (zIf (xNot (xTst (xCall p_are_sizes (aCons (xV 0) (aNil))))) (zNo) (zSkip)) (
    zSeq (zSet 2 (xCall p_contents_of (aCons (xV 0) (aNil)))) (
    zSeq (zSet 3 (xDcT (iEnum (aCons (xV 2) (aNil))) (yTup 2 (yCons (yN 4) (yCons (yN 5) (yNil)))) (xYes) (xV 5) (xOp oIx (xV 1) (xV 4)) [4, 5])) (
    zSeq (zSet 6 (xLstM (aNil))) (
    zSeq (zFor (iSeq (xV 2)) (yN 7) (zFor (iSeq (xV 2)) (yN 8) (zFor (iSeq (xCall p_mixtures (aCons (xV 7) (aCons (xV 8) (aNil))))) (yN 5) (zIf (xOr (xTst (xOp oEq (xGet (xV 3) (xV 5)) (xGet (xV 3) (xV 7)))) (xTst (xOp oEq (xGet (xV 3) (xV 5)) (xGet (xV 3) (xV 8))))) (zExpr (xApp (xV 6) (xTup (aCons (xV 7) (aCons (xV 8) (aCons (xV 5) (aNil))))))) (zSkip))))) (
    zRet (xB (c1 kTuple) (aCons (xB (c1 kSorted) (aCons (xV 6) (aNil))) (aNil))))))))
def b__law_pool : DS :=
    zSeq (zSet 1 (xLc (iSeq (xSl (xV 0) (oNone) (oPart (xC (.int 63))))) (yN 2) (xYes) (xB (c1 kInt) (aCons (xV 2) (aNil))) [2])) (
    zRet (xLstM (aCons (xV 1) (aCons (xC (.int 0)) (aCons (xC (.int 0)) (aCons (xC (.int 1)) (aCons (xOp oMod (xB (c1 kInt) (aCons (xB (c1 kSum) (aCons (xLc (iSeq (xV 1)) (yN 2) (xYes) (xOp oMod (xB (c1 kAbs) (aCons (xV 2) (aNil))) (xC (.int 1000003))) [2]) (aNil))) (aNil))) (xC (.int 1000003))) (aNil))))))))
def b__law_take : DS :=
    zSeq (zAsg (xOp oAdd (xOp oIx (xV 0) (xC (.int 3))) (xC (.int 1))) (ySub (xV 0) (xC (.int 3)))) (
    zSeq (zIf (xTst (xOp oGe (xOp oIx (xV 0) (xC (.int 2))) (xV 1))) (zSeq (zSet 2 (xOp oIx (xV 0) (xC (.int 2)))) (
    zSeq (zAsg (xOp oFdiv (xV 2) (xV 1)) (ySub (xV 0) (xC (.int 2)))) (
    zRet (xOp oMod (xB (c1 kInt) (aCons (xV 2) (aNil))) (xV 1))))) (zSkip)) (
    zSeq (zAsg (xC (.int 0)) (ySub (xV 0) (xC (.int 2)))) (
    zSeq (zSet 3 (xOp oIx (xV 0) (xC (.int 3)))) (
    zSeq (zIf (xTst (xOp oLtX (xOp oIx (xV 0) (xC (.int 1))) (xB (c1 kLen) (aCons (xOp oIx (xV 0) (xC (.int 0))) (aNil))))) (zSeq (zSet 4 (xOp oIx (xOp oIx (xV 0) (xC (.int 0))) (xOp oIx (xV 0) (xC (.int 1))))) (
    zSeq (zAsg (xOp oAdd (xOp oIx (xV 0) (xC (.int 1))) (xC (.int 1))) (ySub (xV 0) (xC (.int 1)))) (
    zSeq (zIf (xTst (xOp oGe (xB (c1 kAbs) (aCons (xV 4) (aNil))) (xOp oPow (xC (.int 10)) (xC (.int 18))))) (zSeq (zAsg (xOp oFdiv (xB (c1 kAbs) (aCons (xV 4) (aNil))) (xV 1)) (ySub (xV 0) (xC (.int 2)))) (
    zRet (xOp oMod (xB (c1 kInt) (aCons (xB (c1 kAbs) (aCons (xV 4) (aNil))) (aNil))) (xV 1)))) (zSkip)) (
    zSet 2 (xOp oMod (xB (c1 kInt) (aCons (xOp oAdd (xOp oAdd (xOp oMul (xV 4) (xC (.int 48271))) (xOp oMul (xV 3) (xC (.int 69621)))) (xC (.int 11))) (aNil))) (xC (.int 2147483647))))))) (zSet 2 (xOp oMod (xB (c1 kInt) (aCons (xOp oAdd (xOp oAdd (xOp oAdd (xOp oMul (xOp oIx (xV 0) (xC (.int 4))) (xC (.int 16807))) (xOp oMul (xOp oMul (xV 3) (xV 3)) (xC (.int 69621)))) (xOp oMul (xV 3) (xC (.int 48271)))) (xC (.int 13))) (aNil))) (xC (.int 2147483629))))) (
    zSeq (zSet 2 (xOp oMod (xB (c1 kInt) (aCons (xOp oAdd (xOp oMul (xV 2) (xV 2)) (xOp oMul (xV 3) (xC (.int 40692)))) (aNil))) (xC (.int 2147483399)))) (
    zRet (xOp oMod (xB (c1 kInt) (aCons (xOp oFdiv (xV 2) (xC (.int 7))) (aNil))) (xV 1))))))))
def b__law_set : DS :=
    zSeq (zSet 1 (xLstM (aNil))) (
    zSeq (zFor (iSeq (xB (c1 kSorted) (aCons (xV 0) (aNil)))) (yN 2) (zIf (xOr (xTst (xOp oEq (xB (c1 kLen) (aCons (xV 1) (aNil))) (xC (.int 0)))) (xTst (xOp oNe (xOp oIx (xV 1) (xNeg (xC (.int 1)))) (xV 2)))) (zExpr (xApp (xV 1) (xV 2))) (zSkip))) (
    zRet (xB (c1 kTuple) (aCons (xV 1) (aNil)))))
def b__law_pair (p__law_take : DSp) : DS :=
    zSeq (zPar 1 2 (aCons (xCall p__law_take (aCons (xV 0) (aCons (xC (.int 5)) (aNil)))) (aCons (xOp oAdd (xC (.int 1)) (xCall p__law_take (aCons (xV 0) (aCons (xC (.int 8)) (aNil))))) (aNil)))) (
    zSeq (zPar3 3 4 5 (aCons (xCall p__law_take (aCons (xV 0) (aCons (xV 2) (aNil)))) (aCons (xLstM (aNil)) (aCons (xLstM (aNil)) (aNil))))) (
    zSeq (zFor (iRange1 (aCons (xV 2) (aNil))) (yN 6) (zSeq (zSet 7 (xCall p__law_take (aCons (xV 0) (aCons (xC (.int 9)) (aNil))))) (
    zSeq (zSet 8 (xV 7)) (
    zSeq (zIf (xOr (xTst (xOp oEq (xV 1) (xC (.int 0)))) (xAnd (xTst (xOp oEq (xV 1) (xC (.int 1)))) (xTst (xOp oEq (xV 6) (xV 3))))) (zSet 8 (xOp oMod (xB (c1 kInt) (aCons (xOp oAdd (xOp oAdd (xV 7) (xC (.int 1))) (xCall p__law_take (aCons (xV 0) (aCons (xC (.int 8)) (aNil))))) (aNil))) (xC (.int 9)))) (zIf (xTst (xOp oEq (xV 1) (xC (.int 2)))) (zSet 8 (xCall p__law_take (aCons (xV 0) (aCons (xC (.int 9)) (aNil))))) (zIf (xTst (xOp oEq (xV 1) (xC (.int 3)))) (zSeq (zSet 7 (xCall p__law_take (aCons (xV 0) (aCons (xC (.int 2)) (aNil))))) (
    zSet 8 (xCall p__law_take (aCons (xV 0) (aCons (xC (.int 2)) (aNil)))))) (zSkip)))) (
    zSeq (zExpr (xApp (xV 4) (xV 7))) (
    zExpr (xApp (xV 5) (xV 8)))))))) (
    zRet (xLst (aCons (xB (c1 kTuple) (aCons (xV 4) (aNil))) (aCons (xB (c1 kTuple) (aCons (xV 5) (aNil))) (aNil)))))))
def b__law_is_mixed : DS :=
    zSeq (zSet 3 (xC (.int 1))) (
    zSeq (zFor (iRange1 (aCons (xB (c1 kLen) (aCons (xV 0) (aNil))) (aNil))) (yN 4) (zIf (xTst (xOp oNe (xOp oIx (xV 0) (xV 4)) (xOp oIx (xV 1) (xV 4)))) (zSet 3 (xOp oMul (xV 3) (xC (.int 2)))) (zSkip))) (
    zSeq (zIf (xOr (xNot (xTst (xIsi (xV 2) "tuple"))) (xTst (xOp oNe (xB (c1 kLen) (aCons (xV 2) (aNil))) (xB (c2 kMax2) (aCons (xC (.int 0)) (aCons (xOp oSub (xV 3) (xC (.int 2))) (aNil))))))) (zRet (xC (.bl false))) (zSkip)) (
    zSeq (zFor (iRange1 (aCons (xB (c1 kLen) (aCons (xV 2) (aNil))) (aNil))) (yN 5) (zSeq (zSet 6 (xOp oIx (xV 2) (xV 5))) (
    zSeq (zIf (xOr (xNot (xTst (xIsi (xV 6) "tuple"))) (xOr (xTst (xOp oNe (xB (c1 kLen) (aCons (xV 6) (aNil))) (xB (c1 kLen) (aCons (xV 0) (aNil))))) (xOr (xTst (xOp oEq (xV 6) (xV 0))) (xTst (xOp oEq (xV 6) (xV 1)))))) (zRet (xC (.bl false))) (zSkip)) (
    zSeq (zFor (iRange1 (aCons (xB (c1 kLen) (aCons (xV 0) (aNil))) (aNil))) (yN 4) (zSeq (zIf (xOr (xNot (xTst (xIsi (xOp oIx (xV 6) (xV 4)) "int"))) (xTst (xIsi (xOp oIx (xV 6) (xV 4)) "bool"))) (zRet (xC (.bl false))) (zSkip)) (
    zIf (xAnd (xTst (xOp oNe (xOp oIx (xV 6) (xV 4)) (xOp oIx (xV 0) (xV 4)))) (xTst (xOp oNe (xOp oIx (xV 6) (xV 4)) (xOp oIx (xV 1) (xV 4))))) (zRet (xC (.bl false))) (zSkip)))) (
    zIf (xAnd (xTst (xOp oGt (xV 5) (xC (.int 0)))) (xNot (xTst (xOp oLtX (xOp oIx (xV 2) (xOp oSub (xV 5) (xC (.int 1)))) (xV 6))))) (zRet (xC (.bl false))) (zSkip)))))) (
    zRet (xC (.bl true))))))
def b__law_sizes (p__law_take : DSp) : DS :=
    zSeq (zSet 2 (xIf (xTst (xOp oEq (xCall p__law_take (aCons (xV 0) (aCons (xC (.int 3)) (aNil)))) (xC (.int 0)))) (xC (.int 8)) (xC (.int 2)))) (
    zSeq (zSet 3 (xIf (xTst (xOp oEq (xCall p__law_take (aCons (xV 0) (aCons (xC (.int 8)) (aNil)))) (xC (.int 0)))) (xC (.int 1)) (xOp oAdd (xC (.int 2)) (xCall p__law_take (aCons (xV 0) (aCons (xC (.int 5)) (aNil))))))) (
    zSeq (zPar 4 5 (aCons (xLstM (aNil)) (aCons (xV 1) (aNil)))) (
    zSeq (zFor (iRange1 (aCons (xV 3) (aNil))) (yN 6) (zIf (xTst (xOp oGe (xV 5) (xC (.int 2)))) (zSeq (zExpr (xApp (xV 4) (xOp oAdd (xC (.int 2)) (xCall p__law_take (aCons (xV 0) (aCons (xB (c2 kMin2) (aCons (xV 2) (aCons (xOp oSub (xV 5) (xC (.int 1))) (aNil)))) (aNil))))))) (
    zSet 5 (xOp oFdiv (xV 5) (xOp oIx (xV 4) (xNeg (xC (.int 1))))))) (zSkip))) (
    zRet (xB (c1 kTuple) (aCons (xV 4) (aNil)))))))
def b__law_content : DS :=
    zSeq (zSet 2 (xLstM (aNil))) (
    zSeq (zFor (iSeq (xV 0)) (yN 3) (zSeq (zExpr (xApp (xV 2) (xOp oMod (xB (c1 kInt) (aCons (xV 1) (aNil))) (xV 3)))) (
    zSet 1 (xOp oFdiv (xV 1) (xV 3))))) (
    zRet (xB (c1 kTuple) (aCons (xV 2) (aNil)))))
def b__law_far_table (p__law_take : DSp) : DS :=
    zSeq (zSet 2 (xLcM (iRange1 (aCons (xV 1) (aNil))) (yN 3) (xYes) (xV 3) [3])) (
    zSeq (zFor (iRange1 (aCons (xC (.int 12)) (aNil))) (yN 4) (zSeq (zSet 5 (xCall p__law_take (aCons (xV 0) (aCons (xV 1) (aNil))))) (
    zAsg (xCall p__law_take (aCons (xV 0) (aCons (xV 1) (aNil)))) (ySub (xV 2) (xV 5))))) (
    zRet (xB (c1 kTuple) (aCons (xV 2) (aNil)))))
def b__law_table (p__law_far_table p__law_take p__law_content : DSp) : DS :=
    zSeq (zIf (xTst (xOp oGt (xV 2) (xC (.int 36)))) (zRet (xCall p__law_far_table (aCons (xV 0) (aCons (xV 2) (aNil))))) (zSkip)) (
    zSeq (zPar 3 4 (aCons (xCall p__law_take (aCons (xV 0) (aCons (xC (.int 6)) (aNil)))) (aCons (xOp oAdd (xC (.int 1)) (xCall p__law_take (aCons (xV 0) (aCons (xV 2) (aNil))))) (aNil)))) (
    zSeq (zSet 5 (xIf (xTst (xOp oGt (xCall p__law_take (aCons (xV 0) (aCons (xC (.int 4)) (aNil)))) (xC (.int 0)))) (xC (.int 1)) (xOp oAdd (xC (.int 1)) (xCall p__law_take (aCons (xV 0) (aCons (xC (.int 1000)) (aNil))))))) (
    zSeq (zSet 6 (xIf (xTst (xOp oEq (xCall p__law_take (aCons (xV 0) (aCons (xC (.int 2)) (aNil)))) (xC (.int 0)))) (xC (.int 0)) (xCall p__law_take (aCons (xV 0) (aCons (xC (.int 1000)) (aNil)))))) (
    zSeq (zAsg (xTup (aCons (xLc (iSeq (xV 1)) (yN 9) (xYes) (xCall p__law_take (aCons (xV 0) (aCons (xC (.int 9)) (aNil)))) [9]) (aCons (xLstM (aNil)) (aNil)))) (yTup 2 (yCons (yN 7) (yCons (yN 8) (yNil))))) (
    zSeq (zFor (iRange1 (aCons (xV 2) (aNil))) (yN 10) (zSeq (zAsg (xTup (aCons (xCall p__law_content (aCons (xV 1) (aCons (xV 10) (aNil)))) (aCons (xV 10) (aNil)))) (yTup 2 (yCons (yN 11) (yCons (yN 12) (yNil))))) (
    zSeq (zIf (xTst (xOp oEq (xV 3) (xC (.int 1)))) (zSet 12 (xC (.int 0))) (zIf (xTst (xOp oEq (xV 3) (xC (.int 2)))) (zSet 12 (xCall p__law_take (aCons (xV 0) (aCons (xC (.int 2)) (aNil))))) (zIf (xTst (xOp oEq (xV 3) (xC (.int 3)))) (zSet 12 (xCall p__law_take (aCons (xV 0) (aCons (xV 4) (aNil))))) (zIf (xTst (xOp oGt (xV 3) (xC (.int 3)))) (zSet 12 (xOp oMod (xB (c1 kInt) (aCons (xB (c1 kSum) (aCons (xLc (iRange1 (aCons (xB (c1 kLen) (aCons (xV 1) (aNil))) (aNil))) (yN 13) (xYes) (xOp oMul (xOp oIx (xV 7) (xV 13)) (xOp oIx (xV 11) (xV 13))) [13]) (aNil))) (aNil))) (xOp oAdd (xC (.int 1)) (xV 4)))) (zSkip))))) (
    zExpr (xApp (xV 8) (xOp oAdd (xV 6) (xOp oMul (xV 5) (xV 12)))))))) (
    zRet (xB (c1 kTuple) (aCons (xV 8) (aNil)))))))))
def b__law_near (p__law_take : DSp) : DS :=
    zSeq (zPar3 2 3 4 (aCons (xCall p__law_take (aCons (xV 0) (aCons (xB (c1 kLen) (aCons (xV 1) (aNil))) (aNil)))) (aCons (xCall p__law_take (aCons (xV 0) (aCons (xB (c1 kLen) (aCons (xV 1) (aNil))) (aNil)))) (aCons (xB (c1 kListM) (aCons (xV 1) (aNil))) (aNil))))) (
    zSeq (zAsg (xIf (xTst (xOp oGt (xCall p__law_take (aCons (xV 0) (aCons (xC (.int 3)) (aNil)))) (xC (.int 0)))) (xOp oIx (xV 1) (xV 3)) (xOp oAdd (xB (c1 kMax) (aCons (xV 1) (aNil))) (xC (.int 1)))) (ySub (xV 4) (xV 2))) (
    zRet (xB (c1 kTuple) (aCons (xV 4) (aNil)))))
def b__law_news : DS :=
    zSeq (zIf (xTst (xOp oEq (xV 1) (xV 2))) (zRet (xLst (aNil))) (zSkip)) (
    zSeq (zSet 3 (xLst (aCons (xTup (aNil)) (aNil)))) (
    zSeq (zFor (iRange1 (aCons (xB (c1 kLen) (aCons (xV 0) (aNil))) (aNil))) (yN 4) (zSeq (zSet 5 (xLstM (aNil))) (
    zSeq (zFor (iSeq (xV 3)) (yN 6) (zIf (xTst (xOp oEq (xOp oIx (xV 1) (xV 4)) (xOp oIx (xV 2) (xV 4)))) (zExpr (xExt (xV 5) (xLc (iRange1 (aCons (xOp oIx (xV 0) (xV 4)) (aNil))) (yN 7) (xYes) (xOp oAdd (xV 6) (xTup (aCons (xV 7) (aNil)))) [7]))) (zExpr (xApp (xV 5) (xOp oAdd (xV 6) (xTup (aCons (xOp oIx (xV 1) (xV 4)) (aNil)))))))) (
    zSet 3 (xV 5))))) (
    zRet (xLc (iSeq (xV 3)) (yN 6) (xTst (xOp oNe (xV 6) (xV 1))) (xV 6) [6]))))
def b__law_tears (p__law_content p__law_news p__law_set : DSp) : DS :=
    zSeq (zPar 2 3 (aCons (xDict) (aCons (xLstM (aNil)) (aNil)))) (
    zSeq (zFor (iRange1 (aCons (xB (c1 kLen) (aCons (xV 1) (aNil))) (aNil))) (yN 4) (zSeq (zSet 5 (xSetD (xV 2) (xOp oIx (xV 1) (xV 4)) (xLstM (aNil)))) (
    zExpr (xApp (xV 5) (xCall p__law_content (aCons (xV 0) (aCons (xV 4) (aNil)))))))) (
    zSeq (zFor (iRange1 (aCons (xB (c1 kLen) (aCons (xV 1) (aNil))) (aNil))) (yN 4) (zSeq (zSet 6 (xCall p__law_content (aCons (xV 0) (aCons (xV 4) (aNil))))) (
    zFor (iSeq (xGet (xV 2) (xOp oIx (xV 1) (xV 4)))) (yN 7) (zFor (iSeq (xCall p__law_news (aCons (xV 0) (aCons (xV 6) (aCons (xV 7) (aNil)))))) (yN 8) (zSeq (zExpr (xApp (xV 3) (xTup (aCons (xV 7) (aCons (xV 8) (aCons (xV 6) (aNil))))))) (
    zExpr (xApp (xV 3) (xTup (aCons (xV 8) (aCons (xV 7) (aCons (xV 6) (aNil)))))))))))) (
    zRet (xCall p__law_set (aCons (xV 3) (aNil))))))
def b_law (p__law_pool p__law_pair p__law_is_mixed p_mixtures p__law_take p__law_sizes p__law_table p__law_tears p__law_near p_blind_tears : DSp) : DS :=
    zSeq (zSet 1 (xCall p__law_pool (aCons (xV 0) (aNil)))) (
    zSeq (zSet 2 (xCall p__law_pair (aCons (xV 1) (aNil)))) (
    zSeq (zPar 3 4 (aCons (xOp oIx (xV 2) (xC (.int 0))) (aCons (xOp oIx (xV 2) (xC (.int 1))) (aNil)))) (
    zSeq (zIf (xNot (xTst (xCall p__law_is_mixed (aCons (xV 3) (aCons (xV 4) (aCons (xCall p_mixtures (aCons (xV 3) (aCons (xV 4) (aNil)))) (aNil))))))) (zRet (xC (.bl false))) (zSkip)) (
    zSeq (zIf (xNot (xTst (xCall p__law_is_mixed (aCons (xV 4) (aCons (xV 3) (aCons (xCall p_mixtures (aCons (xV 4) (aCons (xV 3) (aNil)))) (aNil))))))) (zRet (xC (.bl false))) (zSkip)) (
    zSeq (zPar 5 6 (aCons (xCall p__law_take (aCons (xV 1) (aCons (xC (.int 40)) (aNil)))) (aCons (xC (.int 1)) (aNil)))) (
    zSeq (zSet 7 (xCall p__law_sizes (aCons (xV 1) (aCons (xIf (xTst (xOp oEq (xV 5) (xC (.int 0)))) (xC (.int 128)) (xIf (xTst (xOp oLtX (xV 5) (xC (.int 8)))) (xC (.int 36)) (xC (.int 12)))) (aNil))))) (
    zSeq (zFor (iSeq (xV 7)) (yN 8) (zSet 6 (xOp oMul (xV 6) (xV 8)))) (
    zSeq (zSet 9 (xCall p__law_table (aCons (xV 1) (aCons (xV 7) (aCons (xV 6) (aNil)))))) (
    zSeq (zPar 10 11 (aCons (xCall p__law_near (aCons (xV 1) (aCons (xV 9) (aNil)))) (aCons (xCall p__law_tears (aCons (xV 7) (aCons (xV 9) (aNil)))) (aNil)))) (
    zSeq (zSet 12 (xLstM (aCons (xTup (aCons (xV 9) (aCons (xV 11) (aNil)))) (aNil)))) (
    zSeq (zIf (xTst (xOp oLe (xV 6) (xC (.int 36)))) (zExpr (xExt (xV 12) (xLst (aCons (xTup (aCons (xV 10) (aCons (xCall p__law_tears (aCons (xV 7) (aCons (xV 10) (aNil)))) (aNil)))) (aCons (xTup (aCons (xV 9) (aCons (xV 11) (aNil)))) (aNil)))))) (zSkip)) (
    zSeq (zFor (iSeq (xV 12)) (yN 13) (zSeq (zSet 14 (xCall p_blind_tears (aCons (xV 7) (aCons (xOp oIx (xV 13) (xC (.int 0))) (aNil))))) (
    zIf (xOr (xTst (xOp oNe (xV 14) (xOp oIx (xV 13) (xC (.int 1))))) (xTst (xOp oNeS (xB (c1 kRepr) (aCons (xV 14) (aNil))) (xB (c1 kRepr) (aCons (xOp oIx (xV 13) (xC (.int 1))) (aNil)))))) (zRet (xC (.bl false))) (zSkip)))) (
    zRet (xCall p__law_is_mixed (aCons (xV 3) (aCons (xV 4) (aCons (xCall p_mixtures (aCons (xV 3) (aCons (xV 4) (aNil)))) (aNil))))))))))))))))))
section
variable {P : Program} {w : World} {K : PySem.W.Frag} {mg : Str → Option Value} {base : Heap} (T : Tb K mg)
abbrev Ok (P : Program) (w : World) (K : PySem.W.Frag) (mg : Str → Option Value) (base : Heap) (k : Nat) (f : Addr) (fd : FuncData) (ps : List Str) (p : DSp) : Prop := FnOk P w K mg base CX0 k f fd ps (lift K ps.length p)
include T
theorem d_all_mixtures {cdv : Value} {A : Around} {outer : List PySem.Env} {s : Shared} {H : Hp} {E : XK} (hr : Room 0 (A.deeper (PyProof.Rows.envOfC "all_mixtures" (defScope s_all_mixtures) s.heap.objs.size T.a_all_mixtures cdv))) :
    JSs (cxOf CX0 P w K mg base ["old", "new", "mixed", "place", "parts", "content", "part"] "all_mixtures" (defScope s_all_mixtures) T.a_all_mixtures cdv A outer s H E).nox (defBody s_all_mixtures) (b_all_mixtures) :=
    js_cons (js_set (i := 2) sc_all_mixtures.nd rfl (.inl rfl) (j_lst (ja_cons (j_tup (ja_nil)) (ja_nil)))) (
    js_cons (js_for PassesOwn.never rfl (ji_range1 (by rfl) T.z_range (ja_cons (j_callB jc_len (by rfl) T.z_len bt_len (ja_cons (jv 0) (ja_nil))) (ja_nil))) (jg_N (i := 3) sc_all_mixtures.nd rfl (.inl rfl)) (js_cons (js_set (i := 4) sc_all_mixtures.nd rfl (.inr rfl) (j_if (jt_cmp (jo_eq hr.units) (j_ix (jv 0) (jv 3)) (j_ix (jv 1) (jv 3)) (nomark _)) (j_tup (ja_cons (j_ix (jv 0) (jv 3)) (ja_nil))) (j_tup (ja_cons (j_ix (jv 0) (jv 3)) (ja_cons (j_ix (jv 1) (jv 3)) (ja_nil)))))) (
    js_one (js_setLc2 (i := 2) rfl sc_all_mixtures.nd rfl rfl (sw_true rfl rfl rfl (by decide +kernel)) (ji_seq (jv 2)) (blkOk_by (N := ["old", "new", "mixed", "place", "parts", "content", "part"]) (sc := defScope s_all_mixtures) (own := [("content", 5), ("part", 6)]) (by decide +kernel)) (by decide) (jb_N (own := [("content", 5), ("part", 6)]) (by decide) (fun _ _ _ _ _ => pg_name (i := 5) sc_all_mixtures.nd rfl (by first | exact Or.inl rfl | exact Or.inr rfl))) (fun _ _ _ _ _ => jts_nil) (fun _ _ _ _ _ => ji_seq (jv 4)) (jb_N (own := [("part", 6)]) (by decide) (fun _ _ _ _ _ => pg_name (i := 6) sc_all_mixtures.nd rfl (by first | exact Or.inl rfl | exact Or.inr rfl))) (fun _ _ _ _ _ => jts_nil) (fun _ _ _ _ _ => j_op jo_add (jv 5) (j_tup (ja_cons (jv 6) (ja_nil)))))))) (
    js_one (js_ret (j_callT jc_tuple (by rfl) T.z_tuple bt_tuple (ja_cons (jv 2) (ja_nil))))))
theorem d_mixtures {p_all_mixtures : DSp} (G_all_mixtures : Ok P w K mg base 1 T.a_all_mixtures T.fd_all_mixtures ["old", "new"] p_all_mixtures) {cdv : Value} {A : Around} {outer : List PySem.Env} {s : Shared} {H : Hp} {E : XK} (hr : Room 1 (A.deeper (PyProof.Rows.envOfC "mixtures" (defScope s_mixtures) s.heap.objs.size T.a_mixtures cdv))) :
    JSs (cxOf CX0 P w K mg base ["old", "new", "content"] "mixtures" (defScope s_mixtures) T.a_mixtures cdv A outer s H E).nox (defBody s_mixtures) (b_mixtures p_all_mixtures) :=
    js_one (js_ret (j_callT jc_tuple (by rfl) T.z_tuple bt_tuple (ja_cons (j_callB (jc_sorted hr.units) (by rfl) T.z_sorted bt_sorted (ja_cons (j_lc rfl sc_mixtures.nd (ji_seq (j_call G_all_mixtures (hr.mono (by decide)) (by rfl) T.g_all_mixtures T.F_all_mixtures.kp T.B_all_mixtures (ja_cons (jv 0) (ja_cons (jv 1) (ja_nil))))) (blkOk_by (N := ["old", "new", "content"]) (sc := defScope s_mixtures) (own := [("content", 2)]) (by decide +kernel)) (jb_N (own := [("content", 2)]) (by decide) (fun _ _ _ _ _ => pg_name (i := 2) sc_mixtures.nd rfl (by first | exact Or.inl rfl | exact Or.inr rfl))) (fun _ _ _ _ _ => jts_one (jt_bool (jw_and (jt_cmp (jo_ne hr.units) (jv 2) (jv 0) (nomark _)) (jw_and1 (jt_cmp (jo_ne hr.units) (jv 2) (jv 1) (nomark _)))))) (fun _ _ _ _ _ => jv 2)) (ja_nil))) (ja_nil))))
theorem d_are_sizes {cdv : Value} {A : Around} {outer : List PySem.Env} {s : Shared} {H : Hp} {E : XK} (hr : Room 0 (A.deeper (PyProof.Rows.envOfC "are_sizes" (defScope s_are_sizes) s.heap.objs.size T.a_are_sizes cdv))) :
    JSs (cxOf CX0 P w K mg base ["sizes", "product", "size"] "are_sizes" (defScope s_are_sizes) T.a_are_sizes cdv A outer s H E).nox (defBody s_are_sizes) (b_are_sizes) :=
    js_cons (js_if (jt_not (jt_chain jo_le jo_le (j_int) (j_callB jc_len (by rfl) T.z_len bt_len (ja_cons (jv 0) (ja_nil))) (j_int))) (js_one (js_ret (j_bl))) (js_nil)) (
    js_cons (js_set (i := 1) sc_are_sizes.nd rfl (.inl rfl) (j_int)) (
    js_cons (js_for PassesOwn.never rfl (ji_seq (jv 0)) (jg_N (i := 2) sc_are_sizes.nd rfl (.inl rfl)) (js_cons (js_if (jt_not (jt_chain jo_le jo_le (j_int) (jv 2) (j_int))) (js_one (js_ret (j_bl))) (js_nil)) (
    js_one (js_set (i := 1) sc_are_sizes.nd rfl (.inl rfl) (j_op jo_mul (jv 1) (jv 2)))))) (
    js_one (js_ret (j_cmp jo_le (jv 1) (j_globI' (by rfl) T.c_CONTENTS) (nomark _))))))
theorem d_contents_of {cdv : Value} {A : Around} {outer : List PySem.Env} {s : Shared} {H : Hp} {E : XK} (hr : Room 0 (A.deeper (PyProof.Rows.envOfC "contents_of" (defScope s_contents_of) s.heap.objs.size T.a_contents_of cdv))) :
    JSs (cxOf CX0 P w K mg base ["sizes", "contents", "size", "content", "value"] "contents_of" (defScope s_contents_of) T.a_contents_of cdv A outer s H E).nox (defBody s_contents_of) (b_contents_of) :=
    js_cons (js_set (i := 1) sc_contents_of.nd rfl (.inl rfl) (j_lst (ja_cons (j_tup (ja_nil)) (ja_nil)))) (
    js_cons (js_for PassesOwn.never rfl (ji_seq (j_rev (jv 0))) (jg_N (i := 2) sc_contents_of.nd rfl (.inr rfl)) (js_one (js_setLc2 (i := 1) rfl sc_contents_of.nd rfl rfl (sw_true rfl rfl rfl (by decide +kernel)) (ji_seq (jv 1)) (blkOk_by (N := ["sizes", "contents", "size", "content", "value"]) (sc := defScope s_contents_of) (own := [("content", 3), ("value", 4)]) (by decide +kernel)) (by decide) (jb_N (own := [("content", 3), ("value", 4)]) (by decide) (fun _ _ _ _ _ => pg_name (i := 3) sc_contents_of.nd rfl (by first | exact Or.inl rfl | exact Or.inr rfl))) (fun _ _ _ _ _ => jts_nil) (fun _ _ _ _ _ => ji_range1 (by rfl) T.z_range (ja_cons (jv 2) (ja_nil))) (jb_N (own := [("value", 4)]) (by decide) (fun _ _ _ _ _ => pg_name (i := 4) sc_contents_of.nd rfl (by first | exact Or.inl rfl | exact Or.inr rfl))) (fun _ _ _ _ _ => jts_nil) (fun _ _ _ _ _ => j_op jo_add (j_tup (ja_cons (jv 4) (ja_nil))) (jv 3))))) (
    js_one (js_ret (j_callT jc_tuple (by rfl) T.z_tuple bt_tuple (ja_cons (jv 1) (ja_nil))))))
theorem d_blind_tears {p_are_sizes p_contents_of p_mixtures : DSp} (G_are_sizes : Ok P w K mg base 1 T.a_are_sizes T.fd_are_sizes ["sizes"] p_are_sizes) (G_contents_of : Ok P w K mg base 1 T.a_contents_of T.fd_contents_of ["sizes"] p_contents_of) (G_mixtures : Ok P w K mg base 2 T.a_mixtures T.fd_mixtures ["old", "new"] p_mixtures) {cdv : Value} {A : Around} {outer : List PySem.Env} {s : Shared} {H : Hp} {E : XK} (hr : Room 2 (A.deeper (PyProof.Rows.envOfC "blind_tears" (defScope s_blind_tears) s.heap.objs.size T.a_blind_tears cdv))) :
    JSs (cxOf CX0 P w K mg base ["sizes", "values", "contents", "table", "place", "content", "found", "old", "new"] "blind_tears" (defScope s_blind_tears) T.a_blind_tears cdv A outer s H E).nox (defBody s_blind_tears) (b_blind_tears p_are_sizes p_contents_of p_mixtures) :=
    js_cons (js_if (jt_not (jt_val (j_call G_are_sizes (hr.mono (by decide)) (by rfl) T.g_are_sizes T.F_are_sizes.kp T.B_are_sizes (ja_cons (jv 0) (ja_nil))))) (js_one (js_no)) (js_nil)) (
    js_cons (js_set (i := 2) sc_blind_tears.nd rfl (.inl rfl) (j_call G_contents_of (hr.mono (by decide)) (by rfl) T.g_contents_of T.F_contents_of.kp T.B_contents_of (ja_cons (jv 0) (ja_nil)))) (
    js_cons (js_setDcT (i := 3) rfl sc_blind_tears.nd rfl rfl (sw_trueD rfl rfl rfl (by decide +kernel)) (hu_of hr) (ji_enum (by rfl) T.z_enumerate (ja_cons (jv 2) (ja_nil))) (blkOk_by (N := ["sizes", "values", "contents", "table", "place", "content", "found", "old", "new"]) (sc := defScope s_blind_tears) (own := [("place", 4), ("content", 5)]) (by decide +kernel)) (jb_2 (own := [("place", 4), ("content", 5)]) (by decide) (by decide) (fun _ _ _ _ _ => pg_tup rfl (pgs_cons (pg_name (i := 4) sc_blind_tears.nd rfl (by first | exact Or.inl rfl | exact Or.inr rfl)) (pgs_cons (pg_name (i := 5) sc_blind_tears.nd rfl (by first | exact Or.inl rfl | exact Or.inr rfl)) (pgs_nil))))) (fun _ _ _ _ _ => jts_nil) (fun _ _ _ _ _ => jv 5) (fun _ _ _ _ _ => j_ix (jv 1) (jv 4))) (
    js_cons (js_set (i := 6) sc_blind_tears.nd rfl (.inl rfl) (j_lstM (ja_nil))) (
    js_cons (js_for PassesOwn.never rfl (ji_seq (jv 2)) (jg_N (i := 7) sc_blind_tears.nd rfl (.inl rfl)) (js_one (js_for PassesOwn.never rfl (ji_seq (jv 2)) (jg_N (i := 8) sc_blind_tears.nd rfl (.inl rfl)) (js_one (js_for PassesOwn.never rfl (ji_seq (j_call G_mixtures (hr.mono (by decide)) (by rfl) T.g_mixtures T.F_mixtures.kp T.B_mixtures (ja_cons (jv 7) (ja_cons (jv 8) (ja_nil))))) (jg_N (i := 5) sc_blind_tears.nd rfl (.inl rfl)) (js_one (js_if (jt_bool (jw_or (jt_cmp (jo_eq hr.units) (j_get (hu_of hr) (jv 3) (jv 5)) (j_get (hu_of hr) (jv 3) (jv 7)) (nomark _)) (jw_or1 (jt_cmp (jo_eq hr.units) (j_get (hu_of hr) (jv 3) (jv 5)) (j_get (hu_of hr) (jv 3) (jv 8)) (nomark _))))) (js_one (js_expr (j_app (jv 6) (j_tup (ja_cons (jv 7) (ja_cons (jv 8) (ja_cons (jv 5) (ja_nil)))))))) (js_nil)))))))) (
    js_one (js_ret (j_callT jc_tuple (by rfl) T.z_tuple bt_tuple (ja_cons (j_callB (jc_sorted hr.units) (by rfl) T.z_sorted bt_sorted (ja_cons (jv 6) (ja_nil))) (ja_nil)))))))))
theorem d__law_pool {cdv : Value} {A : Around} {outer : List PySem.Env} {s : Shared} {H : Hp} {E : XK} (hr : Room 0 (A.deeper (PyProof.Rows.envOfC "_law_pool" (defScope s__law_pool) s.heap.objs.size T.a__law_pool cdv))) :
    JSs (cxOf CX0 P w K mg base ["script", "cells", "cell"] "_law_pool" (defScope s__law_pool) T.a__law_pool cdv A outer s H E).nox (defBody s__law_pool) (b__law_pool) :=
    js_cons (js_setLc (i := 1) rfl sc__law_pool.nd rfl rfl (sw_true rfl rfl rfl (by decide +kernel)) (ji_seq (j_sl (jv 0) (jp_none) (jp_some (j_int)))) (blkOk_by (N := ["script", "cells", "cell"]) (sc := defScope s__law_pool) (own := [("cell", 2)]) (by decide +kernel)) (jb_N (own := [("cell", 2)]) (by decide) (fun _ _ _ _ _ => pg_name (i := 2) sc__law_pool.nd rfl (by first | exact Or.inl rfl | exact Or.inr rfl))) (fun _ _ _ _ _ => jts_nil) (fun _ _ _ _ _ => j_callT jc_int (by rfl) T.z_int bt_int (ja_cons (jv 2) (ja_nil)))) (
    js_one (js_ret (j_lstM (ja_cons (jv 1) (ja_cons (j_int) (ja_cons (j_int) (ja_cons (j_int) (ja_cons (j_op jo_mod (j_callT jc_int (by rfl) T.z_int bt_int (ja_cons (j_callB (jc_sum rfl) (by rfl) T.z_sum bt_sum (ja_cons (j_lc rfl sc__law_pool.nd (ji_seq (jv 1)) (blkOk_by (N := ["script", "cells", "cell"]) (sc := defScope s__law_pool) (own := [("cell", 2)]) (by decide +kernel)) (jb_N (own := [("cell", 2)]) (by decide) (fun _ _ _ _ _ => pg_name (i := 2) sc__law_pool.nd rfl (by first | exact Or.inl rfl | exact Or.inr rfl))) (fun _ _ _ _ _ => jts_nil) (fun _ _ _ _ _ => j_op jo_mod (j_callB jc_abs (by rfl) T.z_abs bt_abs (ja_cons (jv 2) (ja_nil))) (j_int))) (ja_nil))) (ja_nil))) (j_int)) (ja_nil)))))))))
theorem d__law_take {cdv : Value} {A : Around} {outer : List PySem.Env} {s : Shared} {H : Hp} {E : XK} (hr : Room 0 (A.deeper (PyProof.Rows.envOfC "_law_take" (defScope s__law_take) s.heap.objs.size T.a__law_take cdv))) :
    JSs (cxOf CX0 P w K mg base ["pool", "many", "number", "turn", "cell"] "_law_take" (defScope s__law_take) T.a__law_take cdv A outer s H E).nox (defBody s__law_take) (b__law_take) :=
    js_cons (js_asg (j_op jo_add (j_ix (jv 0) (j_int)) (j_int)) (jg_sub (jv 0) (j_int))) (
    js_cons (js_if (jt_cmp jo_ge (j_ix (jv 0) (j_int)) (jv 1) (nomark _)) (js_cons (js_set (i := 2) sc__law_take.nd rfl (.inl rfl) (j_ix (jv 0) (j_int))) (
    js_cons (js_asg (j_op jo_fdiv (jv 2) (jv 1)) (jg_sub (jv 0) (j_int))) (
    js_one (js_ret (j_op jo_mod (j_callT jc_int (by rfl) T.z_int bt_int (ja_cons (jv 2) (ja_nil))) (jv 1)))))) (js_nil)) (
    js_cons (js_asg (j_int) (jg_sub (jv 0) (j_int))) (
    js_cons (js_set (i := 3) sc__law_take.nd rfl (.inl rfl) (j_ix (jv 0) (j_int))) (
    js_cons (js_if (jt_cmp (jo_ltX hr.units) (j_ix (jv 0) (j_int)) (j_callB jc_len (by rfl) T.z_len bt_len (ja_cons (j_ix (jv 0) (j_int)) (ja_nil))) (nomark _)) (js_cons (js_set (i := 4) sc__law_take.nd rfl (.inl rfl) (j_ix (j_ix (jv 0) (j_int)) (j_ix (jv 0) (j_int)))) (
    js_cons (js_asg (j_op jo_add (j_ix (jv 0) (j_int)) (j_int)) (jg_sub (jv 0) (j_int))) (
    js_cons (js_if (jt_cmp jo_ge (j_callB jc_abs (by rfl) T.z_abs bt_abs (ja_cons (jv 4) (ja_nil))) (j_op jo_pow (j_int) (j_int)) (nomark _)) (js_cons (js_asg (j_op jo_fdiv (j_callB jc_abs (by rfl) T.z_abs bt_abs (ja_cons (jv 4) (ja_nil))) (jv 1)) (jg_sub (jv 0) (j_int))) (
    js_one (js_ret (j_op jo_mod (j_callT jc_int (by rfl) T.z_int bt_int (ja_cons (j_callB jc_abs (by rfl) T.z_abs bt_abs (ja_cons (jv 4) (ja_nil))) (ja_nil))) (jv 1))))) (js_nil)) (
    js_one (js_set (i := 2) sc__law_take.nd rfl (.inl rfl) (j_op jo_mod (j_callT jc_int (by rfl) T.z_int bt_int (ja_cons (j_op jo_add (j_op jo_add (j_op jo_mul (jv 4) (j_int)) (j_op jo_mul (jv 3) (j_int))) (j_int)) (ja_nil))) (j_int))))))) (js_one (js_set (i := 2) sc__law_take.nd rfl (.inl rfl) (j_op jo_mod (j_callT jc_int (by rfl) T.z_int bt_int (ja_cons (j_op jo_add (j_op jo_add (j_op jo_add (j_op jo_mul (j_ix (jv 0) (j_int)) (j_int)) (j_op jo_mul (j_op jo_mul (jv 3) (jv 3)) (j_int))) (j_op jo_mul (jv 3) (j_int))) (j_int)) (ja_nil))) (j_int))))) (
    js_cons (js_set (i := 2) sc__law_take.nd rfl (.inl rfl) (j_op jo_mod (j_callT jc_int (by rfl) T.z_int bt_int (ja_cons (j_op jo_add (j_op jo_mul (jv 2) (jv 2)) (j_op jo_mul (jv 3) (j_int))) (ja_nil))) (j_int))) (
    js_one (js_ret (j_op jo_mod (j_callT jc_int (by rfl) T.z_int bt_int (ja_cons (j_op jo_fdiv (jv 2) (j_int)) (ja_nil))) (jv 1)))))))))
theorem d__law_set {cdv : Value} {A : Around} {outer : List PySem.Env} {s : Shared} {H : Hp} {E : XK} (hr : Room 0 (A.deeper (PyProof.Rows.envOfC "_law_set" (defScope s__law_set) s.heap.objs.size T.a__law_set cdv))) :
    JSs (cxOf CX0 P w K mg base ["rows", "met", "row"] "_law_set" (defScope s__law_set) T.a__law_set cdv A outer s H E).nox (defBody s__law_set) (b__law_set) :=
    js_cons (js_set (i := 1) sc__law_set.nd rfl (.inl rfl) (j_lstM (ja_nil))) (
    js_cons (js_for PassesOwn.never rfl (ji_seq (j_callB (jc_sorted hr.units) (by rfl) T.z_sorted bt_sorted (ja_cons (jv 0) (ja_nil)))) (jg_N (i := 2) sc__law_set.nd rfl (.inl rfl)) (js_one (js_if (jt_bool (jw_or (jt_cmp (jo_eq hr.units) (j_callB jc_len (by rfl) T.z_len bt_len (ja_cons (jv 1) (ja_nil))) (j_int) (nomark _)) (jw_or1 (jt_cmp (jo_ne hr.units) (j_ix (jv 1) (j_neg (j_int))) (jv 2) (nomark _))))) (js_one (js_expr (j_app (jv 1) (jv 2)))) (js_nil)))) (
    js_one (js_ret (j_callT jc_tuple (by rfl) T.z_tuple bt_tuple (ja_cons (jv 1) (ja_nil))))))
theorem d__law_pair {p__law_take : DSp} (G__law_take : Ok P w K mg base 1 T.a__law_take T.fd__law_take ["pool", "many"] p__law_take) {cdv : Value} {A : Around} {outer : List PySem.Env} {s : Shared} {H : Hp} {E : XK} (hr : Room 1 (A.deeper (PyProof.Rows.envOfC "_law_pair" (defScope s__law_pair) s.heap.objs.size T.a__law_pair cdv))) :
    JSs (cxOf CX0 P w K mg base ["pool", "way", "many", "spot", "old", "new", "place", "value", "other"] "_law_pair" (defScope s__law_pair) T.a__law_pair cdv A outer s H E).nox (defBody s__law_pair) (b__law_pair p__law_take) :=
    js_cons (js_par (i := 1) (j := 2) (by rfl) sc__law_pair.nd rfl rfl (by decide) rfl rfl (ja_cons (j_call G__law_take (hr.mono (by decide)) (by rfl) T.g__law_take T.F__law_take.kp T.B__law_take (ja_cons (jv 0) (ja_cons (j_int) (ja_nil)))) (ja_cons (j_op jo_add (j_int) (j_call G__law_take (hr.mono (by decide)) (by rfl) T.g__law_take T.F__law_take.kp T.B__law_take (ja_cons (jv 0) (ja_cons (j_int) (ja_nil))))) (ja_nil))) (by rfl)) (
    js_cons (js_par3 (i := 3) (j := 4) (l := 5) (by rfl) sc__law_pair.nd rfl rfl rfl (by decide) (by decide) (by decide) rfl rfl rfl (ja_cons (j_call G__law_take (hr.mono (by decide)) (by rfl) T.g__law_take T.F__law_take.kp T.B__law_take (ja_cons (jv 0) (ja_cons (jv 2) (ja_nil)))) (ja_cons (j_lstM (ja_nil)) (ja_cons (j_lstM (ja_nil)) (ja_nil)))) (by rfl)) (
    js_cons (js_for PassesOwn.never rfl (ji_range1 (by rfl) T.z_range (ja_cons (jv 2) (ja_nil))) (jg_N (i := 6) sc__law_pair.nd rfl (.inl rfl)) (js_cons (js_set (i := 7) sc__law_pair.nd rfl (.inl rfl) (j_call G__law_take (hr.mono (by decide)) (by rfl) T.g__law_take T.F__law_take.kp T.B__law_take (ja_cons (jv 0) (ja_cons (j_int) (ja_nil))))) (
    js_cons (js_set (i := 8) sc__law_pair.nd rfl (.inl rfl) (jv 7)) (
    js_cons (js_if (jt_bool (jw_or (jt_cmp (jo_eq hr.units) (jv 1) (j_int) (nomark _)) (jw_or1 (jt_bool (jw_and (jt_cmp (jo_eq hr.units) (jv 1) (j_int) (nomark _)) (jw_and1 (jt_cmp (jo_eq hr.units) (jv 6) (jv 3) (nomark _)))))))) (js_one (js_set (i := 8) sc__law_pair.nd rfl (.inl rfl) (j_op jo_mod (j_callT jc_int (by rfl) T.z_int bt_int (ja_cons (j_op jo_add (j_op jo_add (jv 7) (j_int)) (j_call G__law_take (hr.mono (by decide)) (by rfl) T.g__law_take T.F__law_take.kp T.B__law_take (ja_cons (jv 0) (ja_cons (j_int) (ja_nil))))) (ja_nil))) (j_int)))) (js_one (js_if (jt_cmp (jo_eq hr.units) (jv 1) (j_int) (nomark _)) (js_one (js_set (i := 8) sc__law_pair.nd rfl (.inl rfl) (j_call G__law_take (hr.mono (by decide)) (by rfl) T.g__law_take T.F__law_take.kp T.B__law_take (ja_cons (jv 0) (ja_cons (j_int) (ja_nil)))))) (js_one (js_if (jt_cmp (jo_eq hr.units) (jv 1) (j_int) (nomark _)) (js_cons (js_set (i := 7) sc__law_pair.nd rfl (.inl rfl) (j_call G__law_take (hr.mono (by decide)) (by rfl) T.g__law_take T.F__law_take.kp T.B__law_take (ja_cons (jv 0) (ja_cons (j_int) (ja_nil))))) (
    js_one (js_set (i := 8) sc__law_pair.nd rfl (.inl rfl) (j_call G__law_take (hr.mono (by decide)) (by rfl) T.g__law_take T.F__law_take.kp T.B__law_take (ja_cons (jv 0) (ja_cons (j_int) (ja_nil))))))) (js_nil)))))) (
    js_cons (js_expr (j_app (jv 4) (jv 7))) (
    js_one (js_expr (j_app (jv 5) (jv 8))))))))) (
    js_one (js_ret (j_lst (ja_cons (j_callT jc_tuple (by rfl) T.z_tuple bt_tuple (ja_cons (jv 4) (ja_nil))) (ja_cons (j_callT jc_tuple (by rfl) T.z_tuple bt_tuple (ja_cons (jv 5) (ja_nil))) (ja_nil))))))))
theorem d__law_is_mixed {cdv : Value} {A : Around} {outer : List PySem.Env} {s : Shared} {H : Hp} {E : XK} (hr : Room 0 (A.deeper (PyProof.Rows.envOfC "_law_is_mixed" (defScope s__law_is_mixed) s.heap.objs.size T.a__law_is_mixed cdv))) :
    JSs (cxOf CX0 P w K mg base ["old", "new", "told", "due", "place", "at", "row"] "_law_is_mixed" (defScope s__law_is_mixed) T.a__law_is_mixed cdv A outer s H E).nox (defBody s__law_is_mixed) (b__law_is_mixed) :=
    js_cons (js_set (i := 3) sc__law_is_mixed.nd rfl (.inl rfl) (j_int)) (
    js_cons (js_for PassesOwn.never rfl (ji_range1 (by rfl) T.z_range (ja_cons (j_callB jc_len (by rfl) T.z_len bt_len (ja_cons (jv 0) (ja_nil))) (ja_nil))) (jg_N (i := 4) sc__law_is_mixed.nd rfl (.inl rfl)) (js_one (js_if (jt_cmp (jo_ne hr.units) (j_ix (jv 0) (jv 4)) (j_ix (jv 1) (jv 4)) (nomark _)) (js_one (js_set (i := 3) sc__law_is_mixed.nd rfl (.inl rfl) (j_op jo_mul (jv 3) (j_int)))) (js_nil)))) (
    js_cons (js_if (jt_bool (jw_or (jt_not (jt_val (j_isi (by rfl) T.z_isinstance (by rfl) T.z_tuple bt_tuple (jv 2)))) (jw_or1 (jt_cmp (jo_ne hr.units) (j_callB jc_len (by rfl) T.z_len bt_len (ja_cons (jv 2) (ja_nil))) (j_callB (jc_max2 rfl) (by rfl) T.z_max bt_max (ja_cons (j_int) (ja_cons (j_op jo_sub (jv 3) (j_int)) (ja_nil)))) (nomark _))))) (js_one (js_ret (j_bl))) (js_nil)) (
    js_cons (js_for PassesOwn.never rfl (ji_range1 (by rfl) T.z_range (ja_cons (j_callB jc_len (by rfl) T.z_len bt_len (ja_cons (jv 2) (ja_nil))) (ja_nil))) (jg_N (i := 5) sc__law_is_mixed.nd rfl (.inl rfl)) (js_cons (js_set (i := 6) sc__law_is_mixed.nd rfl (.inl rfl) (j_ix (jv 2) (jv 5))) (
    js_cons (js_if (jt_bool (jw_or (jt_not (jt_val (j_isi (by rfl) T.z_isinstance (by rfl) T.z_tuple bt_tuple (jv 6)))) (jw_or (jt_cmp (jo_ne hr.units) (j_callB jc_len (by rfl) T.z_len bt_len (ja_cons (jv 6) (ja_nil))) (j_callB jc_len (by rfl) T.z_len bt_len (ja_cons (jv 0) (ja_nil))) (nomark _)) (jw_or (jt_cmp (jo_eq hr.units) (jv 6) (jv 0) (nomark _)) (jw_or1 (jt_cmp (jo_eq hr.units) (jv 6) (jv 1) (nomark _))))))) (js_one (js_ret (j_bl))) (js_nil)) (
    js_cons (js_for PassesOwn.never rfl (ji_range1 (by rfl) T.z_range (ja_cons (j_callB jc_len (by rfl) T.z_len bt_len (ja_cons (jv 0) (ja_nil))) (ja_nil))) (jg_N (i := 4) sc__law_is_mixed.nd rfl (.inl rfl)) (js_cons (js_if (jt_bool (jw_or (jt_not (jt_val (j_isi (by rfl) T.z_isinstance (by rfl) T.z_int bt_int (j_ix (jv 6) (jv 4))))) (jw_or1 (jt_val (j_isi (by rfl) T.z_isinstance (by rfl) T.z_bool bt_bool (j_ix (jv 6) (jv 4))))))) (js_one (js_ret (j_bl))) (js_nil)) (
    js_one (js_if (jt_bool (jw_and (jt_cmp (jo_ne hr.units) (j_ix (jv 6) (jv 4)) (j_ix (jv 0) (jv 4)) (nomark _)) (jw_and1 (jt_cmp (jo_ne hr.units) (j_ix (jv 6) (jv 4)) (j_ix (jv 1) (jv 4)) (nomark _))))) (js_one (js_ret (j_bl))) (js_nil))))) (
    js_one (js_if (jt_bool (jw_and (jt_cmp jo_gt (jv 5) (j_int) (nomark _)) (jw_and1 (jt_not (jt_cmp (jo_ltX hr.units) (j_ix (jv 2) (j_op jo_sub (jv 5) (j_int))) (jv 6) (nomark _)))))) (js_one (js_ret (j_bl))) (js_nil))))))) (
    js_one (js_ret (j_bl))))))
theorem d__law_sizes {p__law_take : DSp} (G__law_take : Ok P w K mg base 1 T.a__law_take T.fd__law_take ["pool", "many"] p__law_take) {cdv : Value} {A : Around} {outer : List PySem.Env} {s : Shared} {H : Hp} {E : XK} (hr : Room 1 (A.deeper (PyProof.Rows.envOfC "_law_sizes" (defScope s__law_sizes) s.heap.objs.size T.a__law_sizes cdv))) :
    JSs (cxOf CX0 P w K mg base ["pool", "most", "wide", "many", "sizes", "room", "place"] "_law_sizes" (defScope s__law_sizes) T.a__law_sizes cdv A outer s H E).nox (defBody s__law_sizes) (b__law_sizes p__law_take) :=
    js_cons (js_set (i := 2) sc__law_sizes.nd rfl (.inl rfl) (j_if (jt_cmp (jo_eq hr.units) (j_call G__law_take (hr.mono (by decide)) (by rfl) T.g__law_take T.F__law_take.kp T.B__law_take (ja_cons (jv 0) (ja_cons (j_int) (ja_nil)))) (j_int) (nomark _)) (j_int) (j_int))) (
    js_cons (js_set (i := 3) sc__law_sizes.nd rfl (.inl rfl) (j_if (jt_cmp (jo_eq hr.units) (j_call G__law_take (hr.mono (by decide)) (by rfl) T.g__law_take T.F__law_take.kp T.B__law_take (ja_cons (jv 0) (ja_cons (j_int) (ja_nil)))) (j_int) (nomark _)) (j_int) (j_op jo_add (j_int) (j_call G__law_take (hr.mono (by decide)) (by rfl) T.g__law_take T.F__law_take.kp T.B__law_take (ja_cons (jv 0) (ja_cons (j_int) (ja_nil))))))) (
    js_cons (js_par (i := 4) (j := 5) (by rfl) sc__law_sizes.nd rfl rfl (by decide) rfl rfl (ja_cons (j_lstM (ja_nil)) (ja_cons (jv 1) (ja_nil))) (by rfl)) (
    js_cons (js_for PassesOwn.never rfl (ji_range1 (by rfl) T.z_range (ja_cons (jv 3) (ja_nil))) (jg_N (i := 6) sc__law_sizes.nd rfl (.inl rfl)) (js_one (js_if (jt_cmp jo_ge (jv 5) (j_int) (nomark _)) (js_cons (js_expr (j_app (jv 4) (j_op jo_add (j_int) (j_call G__law_take (hr.mono (by decide)) (by rfl) T.g__law_take T.F__law_take.kp T.B__law_take (ja_cons (jv 0) (ja_cons (j_callB (jc_min2 rfl) (by rfl) T.z_min bt_min (ja_cons (jv 2) (ja_cons (j_op jo_sub (jv 5) (j_int)) (ja_nil)))) (ja_nil))))))) (
    js_one (js_set (i := 5) sc__law_sizes.nd rfl (.inl rfl) (j_op jo_fdiv (jv 5) (j_ix (jv 4) (j_neg (j_int))))))) (js_nil)))) (
    js_one (js_ret (j_callT jc_tuple (by rfl) T.z_tuple bt_tuple (ja_cons (jv 4) (ja_nil))))))))
theorem d__law_content {cdv : Value} {A : Around} {outer : List PySem.Env} {s : Shared} {H : Hp} {E : XK} (hr : Room 0 (A.deeper (PyProof.Rows.envOfC "_law_content" (defScope s__law_content) s.heap.objs.size T.a__law_content cdv))) :
    JSs (cxOf CX0 P w K mg base ["sizes", "number", "row", "size"] "_law_content" (defScope s__law_content) T.a__law_content cdv A outer s H E).nox (defBody s__law_content) (b__law_content) :=
    js_cons (js_set (i := 2) sc__law_content.nd rfl (.inl rfl) (j_lstM (ja_nil))) (
    js_cons (js_for PassesOwn.never rfl (ji_seq (jv 0)) (jg_N (i := 3) sc__law_content.nd rfl (.inl rfl)) (js_cons (js_expr (j_app (jv 2) (j_op jo_mod (j_callT jc_int (by rfl) T.z_int bt_int (ja_cons (jv 1) (ja_nil))) (jv 3)))) (
    js_one (js_set (i := 1) sc__law_content.nd rfl (.inl rfl) (j_op jo_fdiv (jv 1) (jv 3)))))) (
    js_one (js_ret (j_callT jc_tuple (by rfl) T.z_tuple bt_tuple (ja_cons (jv 2) (ja_nil))))))
theorem d__law_far_table {p__law_take : DSp} (G__law_take : Ok P w K mg base 1 T.a__law_take T.fd__law_take ["pool", "many"] p__law_take) {cdv : Value} {A : Around} {outer : List PySem.Env} {s : Shared} {H : Hp} {E : XK} (hr : Room 1 (A.deeper (PyProof.Rows.envOfC "_law_far_table" (defScope s__law_far_table) s.heap.objs.size T.a__law_far_table cdv))) :
    JSs (cxOf CX0 P w K mg base ["pool", "many", "values", "number", "turn", "at"] "_law_far_table" (defScope s__law_far_table) T.a__law_far_table cdv A outer s H E).nox (defBody s__law_far_table) (b__law_far_table p__law_take) :=
    js_cons (js_setLcM (i := 2) rfl sc__law_far_table.nd rfl rfl (sw_true rfl rfl rfl (by decide +kernel)) (ji_range1 (by rfl) T.z_range (ja_cons (jv 1) (ja_nil))) (blkOk_by (N := ["pool", "many", "values", "number", "turn", "at"]) (sc := defScope s__law_far_table) (own := [("number", 3)]) (by decide +kernel)) (jb_N (own := [("number", 3)]) (by decide) (fun _ _ _ _ _ => pg_name (i := 3) sc__law_far_table.nd rfl (by first | exact Or.inl rfl | exact Or.inr rfl))) (fun _ _ _ _ _ => jts_nil) (fun _ _ _ _ _ => jv 3)) (
    js_cons (js_for PassesOwn.never rfl (ji_range1 (by rfl) T.z_range (ja_cons (j_int) (ja_nil))) (jg_N (i := 4) sc__law_far_table.nd rfl (.inl rfl)) (js_cons (js_set (i := 5) sc__law_far_table.nd rfl (.inl rfl) (j_call G__law_take (hr.mono (by decide)) (by rfl) T.g__law_take T.F__law_take.kp T.B__law_take (ja_cons (jv 0) (ja_cons (jv 1) (ja_nil))))) (
    js_one (js_asg (j_call G__law_take (hr.mono (by decide)) (by rfl) T.g__law_take T.F__law_take.kp T.B__law_take (ja_cons (jv 0) (ja_cons (jv 1) (ja_nil)))) (jg_sub (jv 2) (jv 5)))))) (
    js_one (js_ret (j_callT jc_tuple (by rfl) T.z_tuple bt_tuple (ja_cons (jv 2) (ja_nil))))))
theorem d__law_table {p__law_far_table p__law_take p__law_content : DSp} (G__law_far_table : Ok P w K mg base 2 T.a__law_far_table T.fd__law_far_table ["pool", "many"] p__law_far_table) (G__law_take : Ok P w K mg base 1 T.a__law_take T.fd__law_take ["pool", "many"] p__law_take) (G__law_content : Ok P w K mg base 1 T.a__law_content T.fd__law_content ["sizes", "number"] p__law_content) {cdv : Value} {A : Around} {outer : List PySem.Env} {s : Shared} {H : Hp} {E : XK} (hr : Room 2 (A.deeper (PyProof.Rows.envOfC "_law_table" (defScope s__law_table) s.heap.objs.size T.a__law_table cdv))) :
    JSs (cxOf CX0 P w K mg base ["pool", "sizes", "many", "way", "few", "step", "base", "factors", "values", "size", "number", "content", "value", "place"] "_law_table" (defScope s__law_table) T.a__law_table cdv A outer s H E).nox (defBody s__law_table) (b__law_table p__law_far_table p__law_take p__law_content) :=
    js_cons (js_if (jt_cmp jo_gt (jv 2) (j_int) (nomark _)) (js_one (js_ret (j_call G__law_far_table (hr.mono (by decide)) (by rfl) T.g__law_far_table T.F__law_far_table.kp T.B__law_far_table (ja_cons (jv 0) (ja_cons (jv 2) (ja_nil)))))) (js_nil)) (
    js_cons (js_par (i := 3) (j := 4) (by rfl) sc__law_table.nd rfl rfl (by decide) rfl rfl (ja_cons (j_call G__law_take (hr.mono (by decide)) (by rfl) T.g__law_take T.F__law_take.kp T.B__law_take (ja_cons (jv 0) (ja_cons (j_int) (ja_nil)))) (ja_cons (j_op jo_add (j_int) (j_call G__law_take (hr.mono (by decide)) (by rfl) T.g__law_take T.F__law_take.kp T.B__law_take (ja_cons (jv 0) (ja_cons (jv 2) (ja_nil))))) (ja_nil))) (by rfl)) (
    js_cons (js_set (i := 5) sc__law_table.nd rfl (.inl rfl) (j_if (jt_cmp jo_gt (j_call G__law_take (hr.mono (by decide)) (by rfl) T.g__law_take T.F__law_take.kp T.B__law_take (ja_cons (jv 0) (ja_cons (j_int) (ja_nil)))) (j_int) (nomark _)) (j_int) (j_op jo_add (j_int) (j_call G__law_take (hr.mono (by decide)) (by rfl) T.g__law_take T.F__law_take.kp T.B__law_take (ja_cons (jv 0) (ja_cons (j_int) (ja_nil))))))) (
    js_cons (js_set (i := 6) sc__law_table.nd rfl (.inl rfl) (j_if (jt_cmp (jo_eq hr.units) (j_call G__law_take (hr.mono (by decide)) (by rfl) T.g__law_take T.F__law_take.kp T.B__law_take (ja_cons (jv 0) (ja_cons (j_int) (ja_nil)))) (j_int) (nomark _)) (j_int) (j_call G__law_take (hr.mono (by decide)) (by rfl) T.g__law_take T.F__law_take.kp T.B__law_take (ja_cons (jv 0) (ja_cons (j_int) (ja_nil)))))) (
    js_cons (js_asg (j_tup (ja_cons (j_lc rfl sc__law_table.nd (ji_seq (jv 1)) (blkOk_by (N := ["pool", "sizes", "many", "way", "few", "step", "base", "factors", "values", "size", "number", "content", "value", "place"]) (sc := defScope s__law_table) (own := [("size", 9)]) (by decide +kernel)) (jb_N (own := [("size", 9)]) (by decide) (fun _ _ _ _ _ => pg_name (i := 9) sc__law_table.nd rfl (by first | exact Or.inl rfl | exact Or.inr rfl))) (fun _ _ _ _ _ => jts_nil) (fun _ _ _ _ _ => j_call G__law_take (hr.mono (by decide)) (by rfl) T.g__law_take T.F__law_take.kp T.B__law_take (ja_cons (jv 0) (ja_cons (j_int) (ja_nil))))) (ja_cons (j_lstM (ja_nil)) (ja_nil)))) (jg_tup rfl (jgs_cons (jg_N (i := 7) sc__law_table.nd rfl (.inr rfl)) (jgs_cons (jg_N (i := 8) sc__law_table.nd rfl (.inl rfl)) (jgs_nil))))) (
    js_cons (js_for PassesOwn.never rfl (ji_range1 (by rfl) T.z_range (ja_cons (jv 2) (ja_nil))) (jg_N (i := 10) sc__law_table.nd rfl (.inl rfl)) (js_cons (js_asg (j_tup (ja_cons (j_call G__law_content (hr.mono (by decide)) (by rfl) T.g__law_content T.F__law_content.kp T.B__law_content (ja_cons (jv 1) (ja_cons (jv 10) (ja_nil)))) (ja_cons (jv 10) (ja_nil)))) (jg_tup rfl (jgs_cons (jg_N (i := 11) sc__law_table.nd rfl (.inr rfl)) (jgs_cons (jg_N (i := 12) sc__law_table.nd rfl (.inl rfl)) (jgs_nil))))) (
    js_cons (js_if (jt_cmp (jo_eq hr.units) (jv 3) (j_int) (nomark _)) (js_one (js_set (i := 12) sc__law_table.nd rfl (.inl rfl) (j_int))) (js_one (js_if (jt_cmp (jo_eq hr.units) (jv 3) (j_int) (nomark _)) (js_one (js_set (i := 12) sc__law_table.nd rfl (.inl rfl) (j_call G__law_take (hr.mono (by decide)) (by rfl) T.g__law_take T.F__law_take.kp T.B__law_take (ja_cons (jv 0) (ja_cons (j_int) (ja_nil)))))) (js_one (js_if (jt_cmp (jo_eq hr.units) (jv 3) (j_int) (nomark _)) (js_one (js_set (i := 12) sc__law_table.nd rfl (.inl rfl) (j_call G__law_take (hr.mono (by decide)) (by rfl) T.g__law_take T.F__law_take.kp T.B__law_take (ja_cons (jv 0) (ja_cons (jv 4) (ja_nil)))))) (js_one (js_if (jt_cmp jo_gt (jv 3) (j_int) (nomark _)) (js_one (js_set (i := 12) sc__law_table.nd rfl (.inl rfl) (j_op jo_mod (j_callT jc_int (by rfl) T.z_int bt_int (ja_cons (j_callB (jc_sum rfl) (by rfl) T.z_sum bt_sum (ja_cons (j_lc rfl sc__law_table.nd (ji_range1 (by rfl) T.z_range (ja_cons (j_callB jc_len (by rfl) T.z_len bt_len (ja_cons (jv 1) (ja_nil))) (ja_nil))) (blkOk_by (N := ["pool", "sizes", "many", "way", "few", "step", "base", "factors", "values", "size", "number", "content", "value", "place"]) (sc := defScope s__law_table) (own := [("place", 13)]) (by decide +kernel)) (jb_N (own := [("place", 13)]) (by decide) (fun _ _ _ _ _ => pg_name (i := 13) sc__law_table.nd rfl (by first | exact Or.inl rfl | exact Or.inr rfl))) (fun _ _ _ _ _ => jts_nil) (fun _ _ _ _ _ => j_op jo_mul (j_ix (jv 7) (jv 13)) (j_ix (jv 11) (jv 13)))) (ja_nil))) (ja_nil))) (j_op jo_add (j_int) (jv 4))))) (js_nil)))))))) (
    js_one (js_expr (j_app (jv 8) (j_op jo_add (jv 6) (j_op jo_mul (jv 5) (jv 12))))))))) (
    js_one (js_ret (j_callT jc_tuple (by rfl) T.z_tuple bt_tuple (ja_cons (jv 8) (ja_nil))))))))))
theorem d__law_near {p__law_take : DSp} (G__law_take : Ok P w K mg base 1 T.a__law_take T.fd__law_take ["pool", "many"] p__law_take) {cdv : Value} {A : Around} {outer : List PySem.Env} {s : Shared} {H : Hp} {E : XK} (hr : Room 1 (A.deeper (PyProof.Rows.envOfC "_law_near" (defScope s__law_near) s.heap.objs.size T.a__law_near cdv))) :
    JSs (cxOf CX0 P w K mg base ["pool", "values", "at", "other", "news"] "_law_near" (defScope s__law_near) T.a__law_near cdv A outer s H E).nox (defBody s__law_near) (b__law_near p__law_take) :=
    js_cons (js_par3 (i := 2) (j := 3) (l := 4) (by rfl) sc__law_near.nd rfl rfl rfl (by decide) (by decide) (by decide) rfl rfl rfl (ja_cons (j_call G__law_take (hr.mono (by decide)) (by rfl) T.g__law_take T.F__law_take.kp T.B__law_take (ja_cons (jv 0) (ja_cons (j_callB jc_len (by rfl) T.z_len bt_len (ja_cons (jv 1) (ja_nil))) (ja_nil)))) (ja_cons (j_call G__law_take (hr.mono (by decide)) (by rfl) T.g__law_take T.F__law_take.kp T.B__law_take (ja_cons (jv 0) (ja_cons (j_callB jc_len (by rfl) T.z_len bt_len (ja_cons (jv 1) (ja_nil))) (ja_nil)))) (ja_cons (j_callT jc_listM (by rfl) T.z_list bt_list (ja_cons (jv 1) (ja_nil))) (ja_nil)))) (by rfl)) (
    js_cons (js_asg (j_if (jt_cmp jo_gt (j_call G__law_take (hr.mono (by decide)) (by rfl) T.g__law_take T.F__law_take.kp T.B__law_take (ja_cons (jv 0) (ja_cons (j_int) (ja_nil)))) (j_int) (nomark _)) (j_ix (jv 1) (jv 3)) (j_op jo_add (j_callB (jc_max rfl hr.units65) (by rfl) T.z_max bt_max (ja_cons (jv 1) (ja_nil))) (j_int))) (jg_sub (jv 4) (jv 2))) (
    js_one (js_ret (j_callT jc_tuple (by rfl) T.z_tuple bt_tuple (ja_cons (jv 4) (ja_nil))))))
theorem d__law_news {cdv : Value} {A : Around} {outer : List PySem.Env} {s : Shared} {H : Hp} {E : XK} (hr : Room 0 (A.deeper (PyProof.Rows.envOfC "_law_news" (defScope s__law_news) s.heap.objs.size T.a__law_news cdv))) :
    JSs (cxOf CX0 P w K mg base ["sizes", "content", "old", "rows", "place", "more", "row", "value"] "_law_news" (defScope s__law_news) T.a__law_news cdv A outer s H E).nox (defBody s__law_news) (b__law_news) :=
    js_cons (js_if (jt_cmp (jo_eq hr.units) (jv 1) (jv 2) (nomark _)) (js_one (js_ret (j_lst (ja_nil)))) (js_nil)) (
    js_cons (js_set (i := 3) sc__law_news.nd rfl (.inl rfl) (j_lst (ja_cons (j_tup (ja_nil)) (ja_nil)))) (
    js_cons (js_for PassesOwn.never rfl (ji_range1 (by rfl) T.z_range (ja_cons (j_callB jc_len (by rfl) T.z_len bt_len (ja_cons (jv 0) (ja_nil))) (ja_nil))) (jg_N (i := 4) sc__law_news.nd rfl (.inl rfl)) (js_cons (js_set (i := 5) sc__law_news.nd rfl (.inl rfl) (j_lstM (ja_nil))) (
    js_cons (js_for PassesOwn.never rfl (ji_seq (jv 3)) (jg_N (i := 6) sc__law_news.nd rfl (.inr rfl)) (js_one (js_if (jt_cmp (jo_eq hr.units) (j_ix (jv 1) (jv 4)) (j_ix (jv 2) (jv 4)) (nomark _)) (js_one (js_expr (j_ext (jv 5) (j_lc rfl sc__law_news.nd (ji_range1 (by rfl) T.z_range (ja_cons (j_ix (jv 0) (jv 4)) (ja_nil))) (blkOk_by (N := ["sizes", "content", "old", "rows", "place", "more", "row", "value"]) (sc := defScope s__law_news) (own := [("value", 7)]) (by decide +kernel)) (jb_N (own := [("value", 7)]) (by decide) (fun _ _ _ _ _ => pg_name (i := 7) sc__law_news.nd rfl (by first | exact Or.inl rfl | exact Or.inr rfl))) (fun _ _ _ _ _ => jts_nil) (fun _ _ _ _ _ => j_op jo_add (jv 6) (j_tup (ja_cons (jv 7) (ja_nil)))))))) (js_one (js_expr (j_app (jv 5) (j_op jo_add (jv 6) (j_tup (ja_cons (j_ix (jv 1) (jv 4)) (ja_nil)))))))))) (
    js_one (js_set (i := 3) sc__law_news.nd rfl (.inl rfl) (jv 5)))))) (
    js_one (js_ret (j_lc rfl sc__law_news.nd (ji_seq (jv 3)) (blkOk_by (N := ["sizes", "content", "old", "rows", "place", "more", "row", "value"]) (sc := defScope s__law_news) (own := [("row", 6)]) (by decide +kernel)) (jb_N (own := [("row", 6)]) (by decide) (fun _ _ _ _ _ => pg_name (i := 6) sc__law_news.nd rfl (by first | exact Or.inl rfl | exact Or.inr rfl))) (fun _ _ _ _ _ => jts_one (jt_cmp (jo_ne hr.units) (jv 6) (jv 1) (nomark _))) (fun _ _ _ _ _ => jv 6))))))
theorem d__law_tears {p__law_content p__law_news p__law_set : DSp} (G__law_content : Ok P w K mg base 1 T.a__law_content T.fd__law_content ["sizes", "number"] p__law_content) (G__law_news : Ok P w K mg base 1 T.a__law_news T.fd__law_news ["sizes", "content", "old"] p__law_news) (G__law_set : Ok P w K mg base 1 T.a__law_set T.fd__law_set ["rows"] p__law_set) {cdv : Value} {A : Around} {outer : List PySem.Env} {s : Shared} {H : Hp} {E : XK} (hr : Room 1 (A.deeper (PyProof.Rows.envOfC "_law_tears" (defScope s__law_tears) s.heap.objs.size T.a__law_tears cdv))) :
    JSs (cxOf CX0 P w K mg base ["sizes", "values", "alike", "tears", "number", "row", "content", "old", "new"] "_law_tears" (defScope s__law_tears) T.a__law_tears cdv A outer s H E).nox (defBody s__law_tears) (b__law_tears p__law_content p__law_news p__law_set) :=
    js_cons (js_par (i := 2) (j := 3) (by rfl) sc__law_tears.nd rfl rfl (by decide) rfl rfl (ja_cons (j_dict) (ja_cons (j_lstM (ja_nil)) (ja_nil))) (by rfl)) (
    js_cons (js_for PassesOwn.never rfl (ji_range1 (by rfl) T.z_range (ja_cons (j_callB jc_len (by rfl) T.z_len bt_len (ja_cons (jv 1) (ja_nil))) (ja_nil))) (jg_N (i := 4) sc__law_tears.nd rfl (.inl rfl)) (js_cons (js_set (i := 5) sc__law_tears.nd rfl (.inl rfl) (j_setd (jv 2) (j_ix (jv 1) (jv 4)) (j_lstM (ja_nil)) ⟨rfl, rfl, rfl, rfl⟩)) (
    js_one (js_expr (j_app (jv 5) (j_call G__law_content (hr.mono (by decide)) (by rfl) T.g__law_content T.F__law_content.kp T.B__law_content (ja_cons (jv 0) (ja_cons (jv 4) (ja_nil))))))))) (
    js_cons (js_for PassesOwn.never rfl (ji_range1 (by rfl) T.z_range (ja_cons (j_callB jc_len (by rfl) T.z_len bt_len (ja_cons (jv 1) (ja_nil))) (ja_nil))) (jg_N (i := 4) sc__law_tears.nd rfl (.inl rfl)) (js_cons (js_set (i := 6) sc__law_tears.nd rfl (.inl rfl) (j_call G__law_content (hr.mono (by decide)) (by rfl) T.g__law_content T.F__law_content.kp T.B__law_content (ja_cons (jv 0) (ja_cons (jv 4) (ja_nil))))) (
    js_one (js_for PassesOwn.never rfl (ji_seq (j_get (hu_of hr) (jv 2) (j_ix (jv 1) (jv 4)))) (jg_N (i := 7) sc__law_tears.nd rfl (.inl rfl)) (js_one (js_for PassesOwn.never rfl (ji_seq (j_call G__law_news (hr.mono (by decide)) (by rfl) T.g__law_news T.F__law_news.kp T.B__law_news (ja_cons (jv 0) (ja_cons (jv 6) (ja_cons (jv 7) (ja_nil)))))) (jg_N (i := 8) sc__law_tears.nd rfl (.inl rfl)) (js_cons (js_expr (j_app (jv 3) (j_tup (ja_cons (jv 7) (ja_cons (jv 8) (ja_cons (jv 6) (ja_nil))))))) (
    js_one (js_expr (j_app (jv 3) (j_tup (ja_cons (jv 8) (ja_cons (jv 7) (ja_cons (jv 6) (ja_nil))))))))))))))) (
    js_one (js_ret (j_call G__law_set (hr.mono (by decide)) (by rfl) T.g__law_set T.F__law_set.kp T.B__law_set (ja_cons (jv 3) (ja_nil)))))))
theorem d_law {p__law_pool p__law_pair p__law_is_mixed p_mixtures p__law_take p__law_sizes p__law_table p__law_tears p__law_near p_blind_tears : DSp} (G__law_pool : Ok P w K mg base 1 T.a__law_pool T.fd__law_pool ["script"] p__law_pool) (G__law_pair : Ok P w K mg base 2 T.a__law_pair T.fd__law_pair ["pool"] p__law_pair) (G__law_is_mixed : Ok P w K mg base 1 T.a__law_is_mixed T.fd__law_is_mixed ["old", "new", "told"] p__law_is_mixed) (G_mixtures : Ok P w K mg base 2 T.a_mixtures T.fd_mixtures ["old", "new"] p_mixtures) (G__law_take : Ok P w K mg base 1 T.a__law_take T.fd__law_take ["pool", "many"] p__law_take) (G__law_sizes : Ok P w K mg base 2 T.a__law_sizes T.fd__law_sizes ["pool", "most"] p__law_sizes) (G__law_table : Ok P w K mg base 3 T.a__law_table T.fd__law_table ["pool", "sizes", "many"] p__law_table) (G__law_tears : Ok P w K mg base 2 T.a__law_tears T.fd__law_tears ["sizes", "values"] p__law_tears) (G__law_near : Ok P w K mg base 2 T.a__law_near T.fd__law_near ["pool", "values"] p__law_near) (G_blind_tears : Ok P w K mg base 3 T.a_blind_tears T.fd_blind_tears ["sizes", "values"] p_blind_tears) {cdv : Value} {A : Around} {outer : List PySem.Env} {s : Shared} {H : Hp} {E : XK} (hr : Room 3 (A.deeper (PyProof.Rows.envOfC "law" (defScope s_law) s.heap.objs.size T.a_law cdv))) (hg : A.guards = some []) :
    JSs (cxOf CX0 P w K mg base ["script", "pool", "pair", "old", "new", "rare", "many", "sizes", "size", "table", "near", "due", "turns", "turn", "told"] "law" (defScope s_law) T.a_law cdv A outer s H E).nox (defBody s_law) (b_law p__law_pool p__law_pair p__law_is_mixed p_mixtures p__law_take p__law_sizes p__law_table p__law_tears p__law_near p_blind_tears) :=
    js_cons (js_set (i := 1) sc_law.nd rfl (.inl rfl) (j_call G__law_pool (hr.mono (by decide)) (by rfl) T.g__law_pool T.F__law_pool.kp T.B__law_pool (ja_cons (jv 0) (ja_nil)))) (
    js_cons (js_set (i := 2) sc_law.nd rfl (.inl rfl) (j_call G__law_pair (hr.mono (by decide)) (by rfl) T.g__law_pair T.F__law_pair.kp T.B__law_pair (ja_cons (jv 1) (ja_nil)))) (
    js_cons (js_par (i := 3) (j := 4) (by rfl) sc_law.nd rfl rfl (by decide) rfl rfl (ja_cons (j_ix (jv 2) (j_int)) (ja_cons (j_ix (jv 2) (j_int)) (ja_nil))) (by rfl)) (
    js_cons (js_if (jt_not (jt_val (j_call G__law_is_mixed (hr.mono (by decide)) (by rfl) T.g__law_is_mixed T.F__law_is_mixed.kp T.B__law_is_mixed (ja_cons (jv 3) (ja_cons (jv 4) (ja_cons (j_call G_mixtures (hr.mono (by decide)) (by rfl) T.g_mixtures T.F_mixtures.kp T.B_mixtures (ja_cons (jv 3) (ja_cons (jv 4) (ja_nil)))) (ja_nil))))))) (js_one (js_ret (j_bl))) (js_nil)) (
    js_cons (js_if (jt_not (jt_val (j_call G__law_is_mixed (hr.mono (by decide)) (by rfl) T.g__law_is_mixed T.F__law_is_mixed.kp T.B__law_is_mixed (ja_cons (jv 4) (ja_cons (jv 3) (ja_cons (j_call G_mixtures (hr.mono (by decide)) (by rfl) T.g_mixtures T.F_mixtures.kp T.B_mixtures (ja_cons (jv 4) (ja_cons (jv 3) (ja_nil)))) (ja_nil))))))) (js_one (js_ret (j_bl))) (js_nil)) (
    js_cons (js_par (i := 5) (j := 6) (by rfl) sc_law.nd rfl rfl (by decide) rfl rfl (ja_cons (j_call G__law_take (hr.mono (by decide)) (by rfl) T.g__law_take T.F__law_take.kp T.B__law_take (ja_cons (jv 1) (ja_cons (j_int) (ja_nil)))) (ja_cons (j_int) (ja_nil))) (by rfl)) (
    js_cons (js_set (i := 7) sc_law.nd rfl (.inl rfl) (j_call G__law_sizes (hr.mono (by decide)) (by rfl) T.g__law_sizes T.F__law_sizes.kp T.B__law_sizes (ja_cons (jv 1) (ja_cons (j_if (jt_cmp (jo_eq hr.units) (jv 5) (j_int) (nomark _)) (j_int) (j_if (jt_cmp (jo_ltX hr.units) (jv 5) (j_int) (nomark _)) (j_int) (j_int))) (ja_nil))))) (
    js_cons (js_for PassesOwn.never rfl (ji_seq (jv 7)) (jg_N (i := 8) sc_law.nd rfl (.inl rfl)) (js_one (js_set (i := 6) sc_law.nd rfl (.inl rfl) (j_op jo_mul (jv 6) (jv 8))))) (
    js_cons (js_set (i := 9) sc_law.nd rfl (.inl rfl) (j_call G__law_table (hr.mono (by decide)) (by rfl) T.g__law_table T.F__law_table.kp T.B__law_table (ja_cons (jv 1) (ja_cons (jv 7) (ja_cons (jv 6) (ja_nil)))))) (
    js_cons (js_par (i := 10) (j := 11) (by rfl) sc_law.nd rfl rfl (by decide) rfl rfl (ja_cons (j_call G__law_near (hr.mono (by decide)) (by rfl) T.g__law_near T.F__law_near.kp T.B__law_near (ja_cons (jv 1) (ja_cons (jv 9) (ja_nil)))) (ja_cons (j_call G__law_tears (hr.mono (by decide)) (by rfl) T.g__law_tears T.F__law_tears.kp T.B__law_tears (ja_cons (jv 7) (ja_cons (jv 9) (ja_nil)))) (ja_nil))) (by rfl)) (
    js_cons (js_set (i := 12) sc_law.nd rfl (.inl rfl) (j_lstM (ja_cons (j_tup (ja_cons (jv 9) (ja_cons (jv 11) (ja_nil)))) (ja_nil)))) (
    js_cons (js_if (jt_cmp jo_le (jv 6) (j_int) (nomark _)) (js_one (js_expr (j_ext (jv 12) (j_lst (ja_cons (j_tup (ja_cons (jv 10) (ja_cons (j_call G__law_tears (hr.mono (by decide)) (by rfl) T.g__law_tears T.F__law_tears.kp T.B__law_tears (ja_cons (jv 7) (ja_cons (jv 10) (ja_nil)))) (ja_nil)))) (ja_cons (j_tup (ja_cons (jv 9) (ja_cons (jv 11) (ja_nil)))) (ja_nil))))))) (js_nil)) (
    js_cons (js_for PassesOwn.never rfl (ji_seq (jv 12)) (jg_N (i := 13) sc_law.nd rfl (.inl rfl)) (js_cons (js_set (i := 14) sc_law.nd rfl (.inl rfl) (j_call G_blind_tears (hr.mono (by decide)) (by rfl) T.g_blind_tears T.F_blind_tears.kp T.B_blind_tears (ja_cons (jv 7) (ja_cons (j_ix (jv 13) (j_int)) (ja_nil))))) (
    js_one (js_if (jt_bool (jw_or (jt_cmp (jo_ne hr.units) (jv 14) (j_ix (jv 13) (j_int)) (nomark _)) (jw_or1 (jt_cmp jo_neS (j_callB (jc_repr hr.units hg) (by rfl) T.z_repr bt_repr (ja_cons (jv 14) (ja_nil))) (j_callB (jc_repr hr.units hg) (by rfl) T.z_repr bt_repr (ja_cons (j_ix (jv 13) (j_int)) (ja_nil))) (nomark _))))) (js_one (js_ret (j_bl))) (js_nil))))) (
    js_one (js_ret (j_call G__law_is_mixed (hr.mono (by decide)) (by rfl) T.g__law_is_mixed T.F__law_is_mixed.kp T.B__law_is_mixed (ja_cons (jv 3) (ja_cons (jv 4) (ja_cons (j_call G_mixtures (hr.mono (by decide)) (by rfl) T.g_mixtures T.F_mixtures.kp T.B_mixtures (ja_cons (jv 3) (ja_cons (jv 4) (ja_nil)))) (ja_nil)))))))))))))))))))
end
end K68

set_option Elab.async false
set_option linter.all false
set_option maxRecDepth 100000
set_option maxHeartbeats 4000000
namespace K68
open PySem PySem.Spec L2 DL

local macro_rules | `(tactic| law_fin) => `(tactic| simp only [zSeq, zSet, zIf, zRet, zSkip, zPar, zPar3, zExpr, zAsg, zNo, zBreak, zCont, xOp, xV, xC, xTst, xAnd, xOr, xNot, xIf, xChain, xB, xCall, c1, c2, o2, aCons, aNil, xTup, xLst, slot, put, oSub, oMul, oFdiv, oMod, oPow, oLe, oGt, oGe, xYes, yN, yTup, yCons, yNil, wipeD, List.set_cons_succ, List.set_cons_zero, kInt, kAbs, kMax2, kMin2, xNeg,
  kLen_tup, List.length_map, if_true, if_false, Bool.false_eq_true, kLen_lst, oEq_int, oNe_int, oEq_tI, oNe_tI, oAdd_int, oAdd_tup])
abbrev Ends (R : DK) : DEnds := { nx := fun _ M' => ∃ e M2, Gone M' M2 .non e ∧ R e M2, rt := fun d M' => ∃ e M2, Gone M' M2 d e ∧ R e M2 }

def p_are_sizes : DSp := fun ds M Q => ∃ sz : List Int, ds = [tI sz] ∧ (∀ s ∈ sz, 2 ≤ s ∧ s ≤ 9) ∧ sz.length ≤ 6 ∧ 1 ≤ sz.length ∧ sz.prod ≤ 600 ∧ Q (.bl true) M
theorem prod_app (a b : List Int) : (a ++ b).prod = a.prod * b.prod := by
  induction a with
  | nil => simp
  | cons x a ih => simp [ih, Int.mul_assoc]
theorem ints_get {c : List Int} {i : Nat} {x : D} (h : (c.map D.int)[i]? = some x) : ∃ n, c[i]? = some n ∧ x = .int n := by
  rw [List.getElem?_map] at h
  obtain ⟨n, h1, h2⟩ := Option.map_eq_some_iff.mp h
  exact ⟨n, h1, h2.symm⟩
theorem take_succ' {α : Type} {xs : List α} {i : Nat} {x : α} (h : xs[i]? = some x) : xs.take (i + 1) = xs.take i ++ [x] := by
  rw [List.take_succ, h]
  rfl
theorem q_are_sizes : ∀ ds M R, ds.length = 1 → p_are_sizes ds M R → b_are_sizes (Ends R) (enter 3 ds) M := by
  rintro _ M R - ⟨sz, rfl, hs, h6, h1, hp, q⟩
  show b_are_sizes _ [some (tI sz), none, none] M
  unfold b_are_sizes
  law_fin
  rw [if_pos (by simp; omega), if_neg (by simp; omega)]
  refine for_items (sz.map D.int) (fun K k => k) (fun i σ M' => M' = M ∧ ∃ o, σ = [some (tI sz), some (.int (sz.take i).prod), o]) ⟨rfl, none, by simp⟩ ?_ ?_
  · rintro i x σ M' hx ⟨rfl, o, rfl⟩
    obtain ⟨n, hn, rfl⟩ := ints_get hx
    have b := hs n (List.mem_of_getElem? hn)
    law_fin
    rw [if_pos (by simp; omega), if_neg (by simp; omega)]
    refine ⟨Or.inr (by omega), trivial, some (.int n), ?_⟩
    rw [take_succ' hn, prod_app]
    simp
  · rintro σ M' ⟨rfl, o, rfl⟩
    rw [List.length_map, List.take_length]
    law_fin
    rw [decide_eq_true hp]
    exact gone_same Sub.refl q

theorem getD_lt {α : Type} {a b : List α} {i : Nat} {d : α} (h : i < a.length) : (a ++ b).getD i d = a.getD i d := by
  rw [List.getD_eq_getElem?_getD, List.getD_eq_getElem?_getD, List.getElem?_append_left h]
theorem getD_end {α : Type} {a : List α} {x d : α} {i : Nat} (h : i = a.length) : (a ++ [x]).getD i d = x := by
  subst h
  rw [List.getD_eq_getElem?_getD, List.getElem?_append_right (Nat.le_refl _)]
  simp
/-! ### all_mixtures -/
def parts (a b : Int) : List Int := if a = b then [a] else [a, b]
/-- as the text builds them -/
def amix (o n : List Int) (k : Nat) : List (List Int) := match k with
  | 0 => [[]]
  | k + 1 => (amix o n k).flatMap fun c => (parts (o.getD k 0) (n.getD k 0)).map fun x => c ++ [x]
theorem parts_len (a b : Int) : (parts a b).length ≤ 2 := by
  unfold parts
  split <;> simp
theorem flatMap_len {α β : Type} (f : α → List β) (m : Nat) : ∀ l : List α, (∀ x ∈ l, (f x).length ≤ m) → (l.flatMap f).length ≤ l.length * m
  | [], _ => by simp
  | x :: l, h => by
    have h1 := h x List.mem_cons_self
    have h2 := flatMap_len f m l fun y hy => h y (List.mem_cons_of_mem _ hy)
    rw [List.flatMap_cons, List.length_append, List.length_cons, Nat.succ_mul]
    omega
theorem amix_len (o n : List Int) : ∀ k, (amix o n k).length ≤ 2 ^ k
  | 0 => by simp [amix]
  | k + 1 => by
    have h := flatMap_len (fun c => (parts (o.getD k 0) (n.getD k 0)).map fun x => c ++ [x]) 2 (amix o n k) fun c _ => by
      rw [List.length_map]
      exact parts_len _ _
    have ih := amix_len o n k
    show (List.flatMap _ _).length ≤ _
    rw [Nat.pow_succ]
    omega
theorem amix_mem (o n : List Int) : ∀ (k : Nat) (c : List Int), c ∈ amix o n k ↔ c.length = k ∧ ∀ i, i < k → c.getD i 0 = o.getD i 0 ∨ c.getD i 0 = n.getD i 0
  | 0, c => by
    simp only [amix, List.mem_singleton]
    constructor
    · rintro rfl
      exact ⟨rfl, fun i h => absurd h (Nat.not_lt_zero _)⟩
    · rintro ⟨h, _⟩
      exact List.length_eq_zero_iff.mp h
  | k + 1, c => by
    have pm : ∀ x a b : Int, x ∈ parts a b ↔ x = a ∨ x = b := by
      intro x a b
      unfold parts
      split
      · rename_i e
        subst e
        simp
      · simp
    simp only [amix, List.mem_flatMap, List.mem_map]
    constructor
    · rintro ⟨d, hd, x, hx, rfl⟩
      obtain ⟨h1, h2⟩ := (amix_mem o n k d).mp hd
      refine ⟨by rw [List.length_append, h1]; rfl, fun i hi => ?_⟩
      by_cases e : i < k
      · have := h2 i e
        rw [getD_lt (by omega)]
        exact this
      · have e' : i = k := by omega
        subst e'
        rw [getD_end h1.symm]
        exact (pm _ _ _).mp hx
    · rintro ⟨h1, h2⟩
      have hne : c ≠ [] := by
        intro e
        subst e
        cases h1
      have hl : c.dropLast.length = k := by rw [List.length_dropLast]; omega
      have hc := List.dropLast_concat_getLast hne
      refine ⟨c.dropLast, (amix_mem o n k _).mpr ⟨hl, fun i hi => ?_⟩, c.getLast hne, ?_, hc⟩
      · have := h2 i (by omega)
        rw [← hc, getD_lt (by omega)] at this
        exact this
      · rw [pm]
        have := h2 k (by omega)
        rw [← hc, getD_end hl.symm] at this
        exact this
theorem nodup_flatMap {α β : Type} {f : α → List β} : ∀ {l : List α}, l.Nodup → (∀ x ∈ l, (f x).Nodup) → (∀ x ∈ l, ∀ y ∈ l, ∀ z, z ∈ f x → z ∈ f y → x = y) → (l.flatMap f).Nodup
  | [], _, _, _ => by simp
  | x :: l, hl, h1, h2 => by
    rw [List.flatMap_cons, List.nodup_append]
    obtain ⟨hx, hl'⟩ := List.nodup_cons.mp hl
    refine ⟨h1 x List.mem_cons_self, nodup_flatMap hl' (fun y hy => h1 y (List.mem_cons_of_mem _ hy)) (fun y hy z hz => h2 y (List.mem_cons_of_mem _ hy) z (List.mem_cons_of_mem _ hz)), ?_⟩
    rintro a ha b hb rfl
    obtain ⟨y, hy, hay⟩ := List.mem_flatMap.mp hb
    have e := h2 x List.mem_cons_self y (List.mem_cons_of_mem _ hy) a ha hay
    subst e
    exact hx hy
theorem nodup_mapOn {α β : Type} {f : α → β} : ∀ {l : List α}, l.Nodup → (∀ x ∈ l, ∀ y ∈ l, f x = f y → x = y) → (l.map f).Nodup
  | [], _, _ => by simp
  | x :: l, hl, h => by
    obtain ⟨hx, hl'⟩ := List.nodup_cons.mp hl
    rw [List.map_cons, List.nodup_cons]
    refine ⟨fun hm => ?_, nodup_mapOn hl' fun y hy z hz => h y (List.mem_cons_of_mem _ hy) z (List.mem_cons_of_mem _ hz)⟩
    obtain ⟨y, hy, e⟩ := List.mem_map.mp hm
    have := h y (List.mem_cons_of_mem _ hy) x List.mem_cons_self e
    subst this
    exact hx hy
theorem parts_nodup (a b : Int) : (parts a b).Nodup := by
  unfold parts
  split
  · simp
  · rename_i h
    simp [h]
theorem amix_nodup (o n : List Int) : ∀ k, (amix o n k).Nodup
  | 0 => by simp [amix]
  | k + 1 => by
    refine nodup_flatMap (amix_nodup o n k) (fun c _ => nodup_mapOn (parts_nodup _ _) fun x _ y _ e => by simpa using e) ?_
    intro c _ d _ z hz hz'
    obtain ⟨x, _, rfl⟩ := List.mem_map.mp hz
    obtain ⟨y, _, e⟩ := List.mem_map.mp hz'
    exact (List.append_inj' e rfl).1.symm
def p_all_mixtures : DSp := fun ds M Q => ∃ o n : List Int, ds = [tI o, tI n] ∧ o.length = n.length ∧ o.length ≤ 20 ∧ Q (.tup ((amix o n o.length).map tI)) M
theorem tI_app (c : List Int) (x : Int) : D.tup (c.map D.int ++ [.int x]) = tI (c ++ [x]) := by
  show _ = D.tup ((c ++ [x]).map D.int)
  rw [List.map_append]
  rfl
theorem pow_room {k : Nat} (h : k ≤ 20) : 2 ^ k ≤ sizeLine := by
  have := Nat.pow_le_pow_right (n := 2) (by omega) h
  have e : sizeLine = 2 ^ 24 := rfl
  omega
theorem getD_get {c : List Int} {k : Nat} (h : k < c.length) : c.getD k 0 = c[k] := by
  rw [List.getD_eq_getElem?_getD, List.getElem?_eq_getElem h]
  rfl
theorem q_all_mixtures : ∀ ds M R, ds.length = 2 → p_all_mixtures ds M R → b_all_mixtures (Ends R) (enter 7 ds) M := by
  rintro _ M R - ⟨o, n, rfl, hl, h20, q⟩
  show b_all_mixtures _ [some (tI o), some (tI n), none, none, none, none, none] M
  unfold b_all_mixtures
  law_fin
  refine ⟨Nat.zero_le _, by decide, ?_⟩
  refine for_range o.length (by omega) (fun K k => by law_fin; exact k) (fun k σ M' => M' = M ∧ ∃ u v, σ = [some (tI o), some (tI n), some (.lst ((amix o n k).map tI)), u, v, none, none]) ⟨rfl, none, none, rfl⟩ ?_ ?_
  · rintro k σ M' hk ⟨rfl, u, v, rfl⟩
    have hn : k < n.length := by omega
    have step : xLc2 (iSeq (xV 2)) (yN 5) xYes (iSeq (xV 4)) (yN 6) xYes (xOp oAdd (xV 5) (xTup (aCons (xV 6) aNil))) [5, 6] [6] [some (tI o), some (tI n), some (.lst ((amix o n k).map tI)), some (.int k), some (.tup ((parts (o.getD k 0) (n.getD k 0)).map D.int)), none, none] M'
        fun d M1 => M1 = M' ∧ ∃ u v, [some (tI o), some (tI n), some d, some (.int k), some (.tup ((parts (o.getD k 0) (n.getD k 0)).map D.int)), none, none] = [some (tI o), some (tI n), some (.lst ((amix o n (k + 1)).map tI)), u, v, none, none] := by
      have e : ((amix o n k).map tI).flatMap (fun x => ((parts (o.getD k 0) (n.getD k 0)).map D.int).filterMap fun y => match x, y with | .tup c, y => some (.tup (c ++ [y])) | _, _ => none) = (amix o n (k + 1)).map tI := by
        show _ = ((amix o n k).flatMap fun c => (parts (o.getD k 0) (n.getD k 0)).map fun x => c ++ [x]).map tI
        rw [List.flatMap_map, List.map_flatMap]
        congr 1
        funext c
        rw [List.map_map, List.filterMap_map]
        rw [← List.filterMap_eq_map]
        congr 1
        funext x
        simp [tI_app]
      refine lc2_pure ((amix o n k).map tI) (fun _ => (parts (o.getD k 0) (n.getD k 0)).map D.int) (fun x y => match x, y with | .tup c, y => some (.tup (c ++ [y])) | _, _ => none) (fun x σ => σ = [some (tI o), some (tI n), some (.lst ((amix o n k).map tI)), some (.int k), some (.tup ((parts (o.getD k 0) (n.getD k 0)).map D.int)), some x, none]) (fun K k => k) ?_ ?_ ?_ ?_
      · rw [e, List.length_map]
        exact Nat.le_trans (amix_len o n (k + 1)) (pow_room (by omega))
      · intro x M1 hx s C good K0
        law_fin
        exact good _ rfl
      · rintro x y M1 σ2 hx hy rfl s K1 K0 k1 k0
        obtain ⟨c, hc, rfl⟩ := List.mem_map.mp hx
        law_fin
        refine ⟨by simp [sizeLine], ?_, k1 _ rfl⟩
        have := ((amix_mem o n k c).mp hc).1
        have e2 : sizeLine = 2 ^ 24 := rfl
        simp only [List.length_cons, List.length_nil]
        omega
      · rw [e]
        exact ⟨rfl, _, _, rfl⟩
    law_fin
    simp only [oIx_tI hk, oIx_tI hn, oEq_int]
    rw [getD_get hk, getD_get hn] at step
    by_cases h : o[k] = n[k]
    · rw [decide_eq_true h, if_pos rfl]
      unfold parts at step
      rw [if_pos h] at step
      exact ⟨by simp [sizeLine], step⟩
    · rw [decide_eq_false h, if_neg Bool.false_ne_true]
      unfold parts at step
      rw [if_neg h] at step
      exact ⟨by simp [sizeLine], step⟩
  · rintro σ M' ⟨rfl, u, v, rfl⟩
    law_fin
    exact ⟨_, rfl, gone_same Sub.refl q⟩
end K68

set_option Elab.async false
set_option linter.all false
set_option maxRecDepth 100000
set_option maxHeartbeats 4000000
namespace K68
open PySem PySem.Spec L2 DL

local macro_rules | `(tactic| law_fin) => `(tactic| simp only [zSeq, zSet, zIf, zRet, zSkip, zPar, zPar3, zExpr, zAsg, zNo, zBreak, zCont, xOp, xV, xC, xTst, xAnd, xOr, xNot, xIf, xChain, xB, xCall, c1, c2, o2, aCons, aNil, xTup, xLst, slot, put, oSub, oMul, oFdiv, oMod, oPow, oLe, oGt, oGe, xYes, yN, yTup, yCons, yNil, wipeD, List.set_cons_succ, List.set_cons_zero, kInt, kAbs, kMax2, kMin2, xNeg,
  kLen_tup, List.length_map, if_true, if_false, Bool.false_eq_true, kLen_lst, oEq_int, oNe_int, oEq_tI, oNe_tI, oAdd_int, oAdd_tup])

/-! ### mixtures -/
def mixL (o n : List Int) : List (List Int) := sortBy tI ((amix o n o.length).filter fun c => !decide (c = o) && !decide (c = n))
def p_mixtures : DSp := fun ds M Q => ∃ o n : List Int, ds = [tI o, tI n] ∧ o.length = n.length ∧ 1 ≤ o.length ∧ o.length ≤ 20 ∧ Q (.tup ((mixL o n).map tI)) M
theorem filterMap_if {α β : Type} (f : α → β) (p : α → Bool) : ∀ l : List α, l.filterMap (fun x => if p x = true then some (f x) else none) = (l.filter p).map f
  | [] => rfl
  | x :: l => by
    rw [List.filterMap_cons, List.filter_cons]
    by_cases h : p x = true
    · rw [if_pos h, if_pos h, List.map_cons, filterMap_if f p l]
    · rw [if_neg h, if_neg h, filterMap_if f p l]
def mixF (o n : List Int) : D → Option D
  | .tup c => if (!eqB (.tup c) (tI o) && !eqB (.tup c) (tI n)) = true then some (.tup c) else none
  | _ => none
theorem mixF_tI (o n c : List Int) : mixF o n (tI c) = if (!decide (c = o) && !decide (c = n)) = true then some (tI c) else none := by
  show (if (!eqB (tI c) (tI o) && !eqB (tI c) (tI n)) = true then some (tI c) else none) = _
  rw [eqB_tI, eqB_tI]
theorem q_mixtures : ∀ ds M R, ds.length = 2 → p_mixtures ds M R → b_mixtures p_all_mixtures (Ends R) (enter 3 ds) M := by
  rintro _ M R - ⟨o, n, rfl, hl, h1, h20, q⟩
  show b_mixtures p_all_mixtures _ [some (tI o), some (tI n), none] M
  unfold b_mixtures
  law_fin
  have hsz : (amix o n o.length).length ≤ sizeLine := Nat.le_trans (amix_len o n _) (pow_room h20)
  refine lc_pure ((amix o n o.length).map tI) (mixF o n) ?_ ?_ ?_ ?_
  · intro K k
    exact ⟨o, n, rfl, hl, h20, k⟩
  · rw [List.length_map]
    exact hsz
  · intro x M' hx s K1 K0 k1 k0
    obtain ⟨c, hc, rfl⟩ := List.mem_map.mp hx
    rw [mixF_tI] at k1 k0
    law_fin
    by_cases e1 : c = o
    · rw [decide_eq_true e1] at k0 ⊢
      exact k0 rfl
    · rw [decide_eq_false e1] at k0 k1 ⊢
      by_cases e2 : c = n
      · rw [decide_eq_true e2] at k0 ⊢
        exact k0 rfl
      · rw [decide_eq_false e2] at k1 ⊢
        exact k1 _ rfl
  · have e : ((amix o n o.length).map tI).filterMap (mixF o n) = ((amix o n o.length).filter fun c => !decide (c = o) && !decide (c = n)).map tI := by
      rw [List.filterMap_map, ← filterMap_if]
      congr 1
      funext c
      exact mixF_tI o n c
    rw [e]
    refine kSorted_map rfl (wf_tI 59) alike_tI (fun c hc => ?_) ⟨_, rfl, gone_same Sub.refl q⟩
    have hm := ((amix_mem o n _ c).mp (List.mem_filter.mp hc).1).1
    cases c with
    | nil => simp at hm; omega
    | cons x c => exact ⟨_, _, rfl⟩
theorem mixL_mem (o n c : List Int) : c ∈ mixL o n ↔ (c.length = o.length ∧ ∀ i, i < o.length → c.getD i 0 = o.getD i 0 ∨ c.getD i 0 = n.getD i 0) ∧ c ≠ o ∧ c ≠ n := by
  unfold mixL
  rw [(sortBy_perm _ _).mem_iff, List.mem_filter, amix_mem]
  simp
theorem mixL_nodup (o n : List Int) : (mixL o n).Nodup := (sortBy_perm _ _).nodup_iff.mpr ((amix_nodup o n _).sublist List.filter_sublist)

/-! ### contents_of -/
def contents : List Int → List (List Int)
  | [] => [[]]
  | s :: r => (contents r).flatMap fun c => (List.range s.toNat).map fun v => ((v : Nat) : Int) :: c
theorem contents_len : ∀ sz : List Int, (∀ s ∈ sz, 0 ≤ s) → ((contents sz).length : Int) = sz.prod
  | [], _ => rfl
  | s :: r, h => by
    have ih := contents_len r fun x hx => h x (List.mem_cons_of_mem _ hx)
    have hs := h s List.mem_cons_self
    have e : (contents (s :: r)).length = (contents r).length * s.toNat := by
      show (List.flatMap _ _).length = _
      generalize contents r = l
      induction l with
      | nil => simp
      | cons x l ih => rw [List.flatMap_cons, List.length_append, ih, List.length_map, List.length_range, List.length_cons, Nat.succ_mul]; omega
    rw [e, List.prod_cons, ← ih]
    push_cast
    rw [Int.toNat_of_nonneg hs, Int.mul_comm]
def p_contents_of : DSp := fun ds M Q => ∃ sz : List Int, ds = [tI sz] ∧ (∀ s ∈ sz, 1 ≤ s) ∧ sz.length ≤ 1000 ∧ sz.prod ≤ 600 ∧ Q (.tup ((contents sz).map tI)) M
theorem prod_pos : ∀ {sz : List Int}, (∀ s ∈ sz, 1 ≤ s) → 1 ≤ sz.prod
  | [], _ => by simp
  | s :: r, h => by
    have h1 := h s List.mem_cons_self
    have h2 := prod_pos (sz := r) fun x hx => h x (List.mem_cons_of_mem _ hx)
    rw [List.prod_cons]
    have := Int.mul_le_mul h1 h2 (by omega) (by omega)
    omega
theorem prod_drop_le {sz : List Int} (h : ∀ s ∈ sz, 1 ≤ s) (k : Nat) : (sz.drop k).prod ≤ sz.prod := by
  have e := prod_app (sz.take k) (sz.drop k)
  rw [List.take_append_drop] at e
  have h1 : 1 ≤ (sz.take k).prod := prod_pos fun s hs => h s (List.mem_of_mem_take hs)
  have h2 : 1 ≤ (sz.drop k).prod := prod_pos fun s hs => h s (List.mem_of_mem_drop hs)
  have := Int.mul_le_mul_of_nonneg_right h1 (show 0 ≤ (sz.drop k).prod by omega)
  omega
theorem contents_mem_len : ∀ {sz : List Int} {c : List Int}, c ∈ contents sz → c.length = sz.length
  | [], c, h => by
    rw [List.mem_singleton.mp h]
  | s :: r, c, h => by
    obtain ⟨d, hd, hm⟩ := List.mem_flatMap.mp h
    obtain ⟨v, _, rfl⟩ := List.mem_map.mp hm
    rw [List.length_cons, List.length_cons, contents_mem_len hd]
theorem q_contents_of : ∀ ds M R, ds.length = 1 → p_contents_of ds M R → b_contents_of (Ends R) (enter 5 ds) M := by
  rintro _ M R - ⟨sz, rfl, h1, hl, hp, q⟩
  show b_contents_of _ [some (tI sz), none, none, none, none] M
  unfold b_contents_of
  law_fin
  refine ⟨Nat.zero_le _, by simp [sizeLine], ?_⟩
  refine for_items (sz.map D.int).reverse (fun K k => k) (fun i σ M' => M' = M ∧ ∃ u, σ = [some (tI sz), some (.lst ((contents (sz.drop (sz.length - i))).map tI)), u, none, none]) ⟨rfl, none, by simp [contents]⟩ ?_ ?_
  · rintro i x σ M' hx ⟨rfl, u, rfl⟩
    have hi : i < sz.length := by
      have := (List.getElem?_eq_some_iff.mp hx).1
      rwa [List.length_reverse, List.length_map] at this
    have ex : x = .int sz[sz.length - 1 - i] := by
      rw [List.getElem?_reverse (by rw [List.length_map]; exact hi), List.length_map, List.getElem?_map, List.getElem?_eq_getElem (by omega)] at hx
      cases hx
      rfl
    subst ex
    have dr : sz.drop (sz.length - (i + 1)) = sz[sz.length - 1 - i] :: sz.drop (sz.length - i) := by
      have e1 : sz.length - (i + 1) = sz.length - 1 - i := by omega
      have e2 : sz.length - i = sz.length - 1 - i + 1 := by omega
      rw [e1, e2, ← List.drop_eq_getElem_cons]
    have hs1 : 1 ≤ sz[sz.length - 1 - i] := h1 _ (List.getElem_mem _)
    generalize sz[sz.length - 1 - i] = s at hs1 dr ⊢
    obtain ⟨m, rfl⟩ : ∃ m : Nat, s = (m : Int) := ⟨s.toNat, by omega⟩
    have hle : ((m : Int) :: sz.drop (sz.length - i)).prod ≤ 600 := by
      rw [← dr]
      exact Int.le_trans (prod_drop_le h1 _) hp
    have hpos : ∀ s ∈ (m : Int) :: sz.drop (sz.length - i), 1 ≤ s := by
      rw [← dr]
      exact fun s hs => h1 s (List.mem_of_mem_drop hs)
    have e : ((contents (sz.drop (sz.length - i))).map tI).flatMap (fun x => (rangeD 0 (m : Int)).filterMap fun y => match x, y with | .tup c, y => some (.tup (y :: c)) | _, _ => none) = (contents (sz.drop (sz.length - (i + 1)))).map tI := by
      rw [dr]
      show _ = ((contents (sz.drop (sz.length - i))).flatMap fun c => (List.range (m : Int).toNat).map fun v => ((v : Nat) : Int) :: c).map tI
      rw [List.flatMap_map, List.map_flatMap]
      congr 1
      funext c
      unfold rangeD
      rw [List.map_map, List.filterMap_map, ← List.filterMap_eq_map, Int.sub_zero]
      congr 1
      funext x
      simp
    have hml : (m : Int) ≤ 600 := by
      have := prod_pos (sz := sz.drop (sz.length - i)) fun s hs => hpos s (List.mem_cons_of_mem _ hs)
      rw [List.prod_cons] at hle
      have := Int.mul_le_mul_of_nonneg_left this (show (0 : Int) ≤ m by omega)
      omega
    law_fin
    refine lc2_pure ((contents (sz.drop (sz.length - i))).map tI) (fun _ => rangeD 0 (m : Int)) (fun x y => match x, y with | .tup c, y => some (.tup (y :: c)) | _, _ => none) (fun x σ => σ = [some (tI sz), some (.lst ((contents (sz.drop (sz.length - i))).map tI)), some (.int m), some x, none]) (fun K k => k) ?_ ?_ ?_ ?_
    · rw [e, List.length_map]
      have := contents_len (sz.drop (sz.length - (i + 1))) (by rw [dr]; exact fun s hs => by have := hpos s hs; omega)
      rw [dr] at this ⊢
      have e2 : sizeLine = 2 ^ 24 := rfl
      omega
    · intro x M1 hx s C good K0
      law_fin
      exact ⟨rng_nat (by omega), good _ rfl⟩
    · rintro x y M1 σ2 hx hy rfl s K1 K0 k1 k0
      obtain ⟨c, hc, rfl⟩ := List.mem_map.mp hx
      law_fin
      have := contents_mem_len hc
      rw [List.length_drop] at this
      have e2 : sizeLine = 2 ^ 24 := rfl
      refine ⟨by simp [sizeLine], ?_, k1 _ rfl⟩
      simp only [List.length_cons, List.length_nil]
      omega
    · rw [e]
      exact ⟨rfl, _, rfl⟩
  · rintro σ M' ⟨rfl, u, rfl⟩
    rw [List.length_reverse, List.length_map, Nat.sub_self, List.drop_zero]
    law_fin
    exact ⟨_, rfl, gone_same Sub.refl q⟩
end K68

set_option Elab.async false
set_option linter.all false
set_option maxRecDepth 100000
set_option maxHeartbeats 4000000
namespace K68
open PySem PySem.Spec L2 DL

local macro_rules | `(tactic| law_fin) => `(tactic| simp only [zSeq, zSet, zIf, zRet, zSkip, zPar, zPar3, zExpr, zAsg, zNo, zBreak, zCont, xOp, xV, xC, xTst, xAnd, xOr, xNot, xIf, xChain, xB, xCall, c1, c2, o2, aCons, aNil, xTup, xLst, slot, put, oSub, oMul, oFdiv, oMod, oPow, oLe, oGt, oGe, xYes, yN, yTup, yCons, yNil, wipeD, List.set_cons_succ, List.set_cons_zero, kInt, kAbs, kMax2, kMin2, xNeg,
  kLen_tup, List.length_map, if_true, if_false, Bool.false_eq_true, kLen_lst, oEq_int, oNe_int, oEq_tI, oNe_tI, oAdd_int, oAdd_tup])

/-! ### _law_content -/
def digits : List Int → Int → List Int
  | [], _ => []
  | s :: r, k => k % s :: digits r (k / s)
theorem digits_len : ∀ (sz : List Int) (k : Int), (digits sz k).length = sz.length
  | [], _ => rfl
  | s :: r, k => by rw [digits, List.length_cons, List.length_cons, digits_len]
def p__law_content : DSp := fun ds M Q => ∃ (sz : List Int) (k : Int), ds = [tI sz, .int k] ∧ (∀ s ∈ sz, 1 ≤ s ∧ s < 1073741824) ∧ sz.length ≤ 1000 ∧ Q (tI (digits sz k)) M
theorem zFor_seq_I {a : DE} {g : DG} {b : DS} {R : DEnds} {σ : DL.Env} {M : Mm} (c : List Int) (ha : ∀ K : DK, K (tI c) M → a σ M K) (I : Nat → DL.Env → Mm → Prop) (h0 : I 0 σ M)
    (hs : ∀ (i : Nat) (n : Int) σ M, c[i]? = some n → I i σ M → g (.int n) σ M fun σ1 M2 => b { R with nx := I (i + 1), ct := I (i + 1), bk := R.nx } σ1 M2) (hd : ∀ σ M, I c.length σ M → R.nx σ M) : zFor (iSeq a) g b R σ M := by
  refine for_items (c.map D.int) (fun K k => ha _ k) I h0 (fun i x σ M hx hI => ?_) (fun σ M hI => hd σ M (by rw [List.length_map] at hI; exact hI))
  obtain ⟨n, hn, rfl⟩ := ints_get hx
  exact hs i n σ M hn hI
theorem q__law_content : ∀ ds M R, ds.length = 2 → p__law_content ds M R → b__law_content (Ends R) (enter 4 ds) M := by
  rintro _ M R - ⟨sz, k, rfl, hs, hl, q⟩
  show b__law_content _ [some (tI sz), some (.int k), none, none] M
  unfold b__law_content
  law_fin
  refine ⟨Nat.zero_le _, fun p np => ?_⟩
  refine zFor_seq_I sz (fun K k => k) (fun i σ M' => ∃ a num u, M' = M.upd p (.lst (a.map D.int)) ∧ a.length = i ∧ a ++ digits (sz.drop i) num = digits sz k ∧ σ = [some (tI sz), some (.int num), some (.ptr p), u]) ⟨[], k, none, rfl, rfl, rfl, rfl⟩ ?_ ?_
  · rintro i n σ M' hn ⟨a, num, u, rfl, ha, hd, rfl⟩
    obtain ⟨hlt, hn'⟩ := List.getElem?_eq_some_iff.mp hn
    have b := hs n (List.mem_of_getElem? hn)
    unfold xApp
    law_fin
    refine ⟨⟨_, Mm.upd_same⟩, by omega, _, Mm.upd_same, ?_, ⟨by omega, b.2⟩, a ++ [num % n], num / n, some (.int n), ?_, by simp [ha], ?_, rfl⟩
    · have e2 : sizeLine = 2 ^ 24 := rfl
      rw [List.length_map]
      omega
    · rw [Mm.upd_upd, List.map_append]
      rfl
    · rw [← hd, List.drop_eq_getElem_cons hlt, hn', digits, List.append_assoc]
      rfl
  · rintro σ M' ⟨a, num, u, rfl, ha, hd, rfl⟩
    rw [List.drop_length, digits, List.append_nil] at hd
    subst hd
    law_fin
    exact ⟨_, by simp [seqD, Mm.upd_same], gone_same (Sub.new np Sub.refl) q⟩

/-! ### _law_set -/
theorem snoc_ind {α : Type} {P : List α → Prop} (h0 : P []) (h1 : ∀ l x, P l → P (l ++ [x])) : ∀ l, P l := by
  have key : ∀ l : List α, P l.reverse := by
    intro l
    induction l with
    | nil => exact h0
    | cons x l ih =>
      rw [List.reverse_cons]
      exact h1 _ _ ih
  intro l
  have := key l.reverse
  rwa [List.reverse_reverse] at this
section
variable {α : Type} [DecidableEq α]
def addNew (acc : List α) (x : α) : List α := if acc.getLast? = some x then acc else acc ++ [x]
def dedup (l : List α) : List α := l.foldl addNew []
theorem addNew_len (acc : List α) (x : α) : (addNew acc x).length ≤ acc.length + 1 := by
  unfold addNew
  split
  · omega
  · rw [List.length_append]
    simp
theorem dedup_snoc (l : List α) (x : α) : dedup (l ++ [x]) = addNew (dedup l) x := by
  unfold dedup
  rw [List.foldl_append]
  rfl
theorem dedup_mem : ∀ (l : List α) x, x ∈ dedup l ↔ x ∈ l := by
  refine snoc_ind (fun x => Iff.rfl) fun l y ih x => ?_
  · rw [dedup_snoc]
    unfold addNew
    split
    · rename_i h
      have : y ∈ dedup l := List.mem_of_getLast? h
      rw [ih, List.mem_append, List.mem_singleton]
      constructor
      · exact Or.inl
      · rintro (h | rfl)
        · exact h
        · exact (ih _).mp this
    · rw [List.mem_append, List.mem_append, ih]
theorem dedup_len : ∀ l : List α, (dedup l).length ≤ l.length := by
  refine snoc_ind (Nat.le_refl _) fun l y ih => ?_
  · rw [dedup_snoc, List.length_append]
    have := addNew_len (dedup l) y
    simp only [List.length_singleton]
    omega
/-- of a sorted list -/
theorem dedup_sorted {le : α → α → Bool} (anti : ∀ a b, le a b = true → le b a = true → a = b) : ∀ l : List α, l.Pairwise (fun a b => le a b = true) → (dedup l).Pairwise (fun a b => le a b = true) ∧ (dedup l).Nodup := by
  refine snoc_ind (fun _ => ⟨.nil, .nil⟩) fun l y ih h => ?_
  obtain ⟨h1, h2, h3⟩ := List.pairwise_append.mp h
  obtain ⟨p, nd⟩ := ih h1
  rw [dedup_snoc]
  unfold addNew
  split
  · exact ⟨p, nd⟩
  · rename_i hne
    have below : ∀ a ∈ dedup l, le a y = true := fun a ha => h3 a ((dedup_mem l a).mp ha) y (List.mem_singleton.mpr rfl)
    refine ⟨List.pairwise_append.mpr ⟨p, List.pairwise_singleton _ _, fun a ha b hb => by rw [List.mem_singleton.mp hb]; exact below a ha⟩, List.nodup_append.mpr ⟨nd, by simp, ?_⟩⟩
    rintro a ha b hb rfl
    rw [List.mem_singleton.mp hb] at ha
    -- y stands within; then it is the last
    apply hne
    have hd : dedup l ≠ [] := fun e => by rw [e] at ha; cases ha
    rw [List.getLast?_eq_some_getLast hd]
    congr 1
    have hc := List.dropLast_concat_getLast hd
    rw [← hc] at ha
    rcases List.mem_append.mp ha with h | h
    · have p2 := p
      rw [← hc] at p2
      have l1 := (List.pairwise_append.mp p2).2.2 y h _ (List.mem_singleton.mpr rfl)
      exact anti _ _ (below _ (List.getLast_mem hd)) l1
    · exact (List.mem_singleton.mp h).symm
end
def p__law_set : DSp := fun ds M Q => ∃ (p : Addr) (ts : List (List (List Int))), ds = [.ptr p] ∧ M p = some (.lst (ts.map tT)) ∧ (∀ t ∈ ts, t ≠ []) ∧ ts.length ≤ sizeLine ∧ Q (.tup ((dedup (sortBy tT ts)).map tT)) M
theorem tT_inj {a b : List (List Int)} (h : tT a = tT b) : a = b := tok_tT (by rw [h])
theorem oNe_tT {a b : List (List Int)} {M : Mm} {Q : DK} : oNe (tT a) (tT b) M Q = Q (.bl (!decide (a = b))) M := by
  have e : eqB (tT a) (tT b) = decide (a = b) := by
    by_cases h : a = b
    · rw [decide_eq_true h, h]
      exact eqB_refl 2 _ (wf_tT 0 b)
    · rw [decide_eq_false h]
      exact eqB_ne (std_tT 0 a) (std_tT 0 b) fun z => h (tT_inj z)
  exact propext ⟨fun z => by have := z.2.2; rw [e] at this; exact this, fun q => ⟨wf_tT 58 a, wf_tT 58 b, by rw [e]; exact q⟩⟩
theorem q__law_set : ∀ ds M R, ds.length = 1 → p__law_set ds M R → b__law_set (Ends R) (enter 3 ds) M := by
  rintro _ M R - ⟨p, ts, rfl, hp, hne, hl, q⟩
  show b__law_set _ [some (.ptr p), none, none] M
  unfold b__law_set
  law_fin
  refine ⟨Nat.zero_le _, fun m nm => ?_⟩
  have pm : p ≠ m := fun e => by rw [e, nm] at hp; cases hp
  have hp' : ∀ c, (M.upd m c) p = some (.lst (ts.map tT)) := fun c => by rw [Mm.upd_ne pm]; exact hp
  have sl : (sortBy tT ts).length = ts.length := (sortBy_perm _ _).length_eq
  refine for_items ((sortBy tT ts).map tT) (fun K k => ?_) (fun i σ M' => ∃ u, M' = M.upd m (.lst ((dedup ((sortBy tT ts).take i)).map tT)) ∧ σ = [some (.ptr p), some (.ptr m), u]) ⟨none, rfl, rfl⟩ ?_ ?_
  · unfold iSeq
    law_fin
    refine kSorted_map (f := tT) (l := ts) ?_ (wf_tT 58) alike_tT (fun t ht => ?_) k
    · unfold listD
      simp [hp']
    · cases t with
      | nil => exact (hne _ ht rfl).elim
      | cons x t => exact ⟨_, _, rfl⟩
  · rintro i x σ M' hx ⟨u, rfl, rfl⟩
    rw [List.getElem?_map] at hx
    obtain ⟨t, ht, rfl⟩ := Option.map_eq_some_iff.mp hx
    have hlt := (List.getElem?_eq_some_iff.mp ht).1
    generalize hacc : dedup ((sortBy tT ts).take i) = acc
    have hal : acc.length ≤ i := by
      rw [← hacc]
      refine Nat.le_trans (dedup_len _) ?_
      rw [List.length_take]
      omega
    have next : dedup ((sortBy tT ts).take (i + 1)) = addNew acc t := by rw [take_succ' ht, dedup_snoc, hacc]
    law_fin
    rw [kLen_ptr Mm.upd_same]
    simp only [oEq_int, List.length_map]
    unfold xApp
    law_fin
    by_cases e0 : acc = []
    · subst e0
      refine ⟨⟨_, Mm.upd_same⟩, _, Mm.upd_same, by simp [sizeLine], some (tT t), ?_, rfl⟩
      rw [next, Mm.upd_upd]
      rfl
    · rw [if_neg (by simp [e0])]
      have hc := List.dropLast_concat_getLast e0
      have last : atI (acc.map tT) (-1) = some (tT (acc.getLast e0)) := by
        conv => lhs; rw [← hc, List.map_append]
        exact atI_last
      refine ⟨_, _, by unfold seqD; simp [Mm.upd_same], last, ?_⟩
      simp only [oNe_tT]
      have gl : acc.getLast? = some (acc.getLast e0) := List.getLast?_eq_some_getLast e0
      by_cases e1 : acc.getLast e0 = t
      · rw [decide_eq_true e1]
        refine ⟨some (tT t), ?_, rfl⟩
        rw [next]
        unfold addNew
        rw [gl, if_pos (by rw [e1])]
      · rw [decide_eq_false e1]
        refine ⟨⟨_, Mm.upd_same⟩, _, Mm.upd_same, by rw [List.length_map]; omega, some (tT t), ?_, rfl⟩
        rw [next]
        unfold addNew
        rw [gl, if_neg (by simpa using e1), Mm.upd_upd, List.map_append]
        rfl
  · rintro σ M' ⟨u, rfl, rfl⟩
    rw [List.length_map, List.take_length]
    law_fin
    exact ⟨_, by simp [seqD, Mm.upd_same], gone_same (Sub.new nm Sub.refl) q⟩

/-! ### _law_is_mixed -/
def due (o n : List Int) : Nat → Int
  | 0 => 1
  | k + 1 => if o.getD k 0 = n.getD k 0 then due o n k else due o n k * 2
structure Mixed (o n : List Int) (ms : List (List Int)) : Prop where
  len : (ms.length : Int) = max 0 (due o n o.length - 2)
  mem : ∀ c ∈ ms, (c.length = o.length ∧ ∀ i, i < o.length → c.getD i 0 = o.getD i 0 ∨ c.getD i 0 = n.getD i 0) ∧ c ≠ o ∧ c ≠ n
  lt : ∀ i (h : i + 1 < ms.length), PySem.W.dataLt (tI ms[i]).py (tI ms[i + 1]).py = true
def p__law_is_mixed : DSp := fun ds M Q => ∃ (o n : List Int) (ms : List (List Int)), ds = [tI o, tI n, .tup (ms.map tI)] ∧ o.length = n.length ∧ o.length ≤ 20 ∧ ms.length < 2 ^ 40 ∧ Mixed o n ms ∧ Q (.bl true) M
theorem oLtX_tI {a b : List Int} {M : Mm} {Q : DK} : oLtX (tI a) (tI b) M Q = Q (.bl (PySem.W.dataLt (tI a).py (tI b).py)) M := by
  refine propext ⟨fun z => ?_, fun q => ?_⟩
  · obtain ⟨_, _, _, _, q⟩ : oLtD (tI a) (tI b) M Q := z
    exact q
  · show oLtD (tI a) (tI b) M Q
    refine ⟨wf_tI 59 a, wf_tI 59 b, alike_tI a b, ?_, q⟩
    simp only [D.py]
    exact fun z => nomatch z
theorem xIsi_tup {a : DE} {σ : DL.Env} {M : Mm} {Q : DK} {xs : List D} (h : ∀ K : DK, K (.tup xs) M → a σ M K) (q : Q (.bl true) M) : xIsi a "tuple" σ M Q := h _ ⟨"tuple", rfl, q⟩
theorem q__law_is_mixed : ∀ ds M R, ds.length = 3 → p__law_is_mixed ds M R → b__law_is_mixed (Ends R) (enter 7 ds) M := by
  rintro _ M R - ⟨o, n, ms, rfl, hl, h20, hms, G, q⟩
  show b__law_is_mixed _ [some (tI o), some (tI n), some (.tup (ms.map tI)), none, none, none, none] M
  unfold b__law_is_mixed
  law_fin
  refine DL.for_range o.length (by omega) (fun K k => by law_fin; exact k) (fun k σ M' => M' = M ∧ ∃ u, σ = [some (tI o), some (tI n), some (.tup (ms.map tI)), some (.int (due o n k)), u, none, none]) ⟨rfl, none, rfl⟩ ?_ ?_
  · rintro k σ M' hk ⟨rfl, u, rfl⟩
    have hn : k < n.length := by omega
    law_fin
    simp only [oIx_tI hk, oIx_tI hn, oNe_int]
    by_cases e : o[k] = n[k]
    · rw [decide_eq_true e]
      refine ⟨by trivial, some (.int k), ?_⟩
      rw [due, getD_get hk, getD_get hn, if_pos e]
    · rw [decide_eq_false e]
      refine ⟨Or.inr (by omega), by trivial, some (.int k), ?_⟩
      rw [due, getD_get hk, getD_get hn, if_neg e]
  rintro σ M' ⟨rfl, u, rfl⟩
  unfold xIsi
  law_fin
  refine ⟨"tuple", rfl, ?_⟩
  rw [show isiB "tuple" "tuple" = true from by decide]
  simp only [oNe_int, Bool.not_true, Bool.false_eq_true, if_false]
  rw [decide_eq_true G.len]
  simp only [Bool.not_true, Bool.false_eq_true, if_false]
  refine DL.for_range ms.length (by omega) (fun K k => by law_fin; exact k) (fun k σ N => N = M' ∧ ∃ u v w, σ = [some (tI o), some (tI n), some (.tup (ms.map tI)), some (.int (due o n o.length)), u, v, w]) ⟨rfl, _, _, _, rfl⟩ ?_ ?_
  · rintro k σ M' hk ⟨rfl, u, v, w, rfl⟩
    obtain ⟨⟨cl, cm⟩, co, cn⟩ := G.mem ms[k] (List.getElem_mem hk)
    have got : (ms.map tI)[k]? = some (tI ms[k]) := by
      rw [List.getElem?_map, List.getElem?_eq_getElem hk]
      rfl
    law_fin
    refine oIx_tup got ?_
    refine ⟨"tuple", rfl, ?_⟩
    rw [show isiB "tuple" "tuple" = true from by decide]
    simp only [kLen_tI, oNe_int, oEq_tI, Bool.not_true, Bool.false_eq_true, if_false]
    rw [cl, decide_eq_true rfl, decide_eq_false co, decide_eq_false cn]
    simp only [Bool.not_true, Bool.false_eq_true, if_false]
    refine DL.for_range o.length (by omega) (fun K z => by law_fin; exact z) (fun j σ M'' => M'' = M' ∧ ∃ u, σ = [some (tI o), some (tI n), some (.tup (ms.map tI)), some (.int (due o n o.length)), u, some (.int k), some (tI ms[k])]) ⟨rfl, u, rfl⟩ ?_ ?_
    · rintro j σ M'' hj ⟨rfl, u', rfl⟩
      have jn : j < n.length := by omega
      have jc : j < ms[k].length := by omega
      law_fin
      simp only [oIx_tI hj, oIx_tI jn, oIx_tI jc, oNe_int]
      refine ⟨"int", rfl, ?_⟩
      rw [show isiB "int" "int" = true from by decide]
      simp only [Bool.not_true, Bool.false_eq_true, if_false]
      refine ⟨"int", rfl, ?_⟩
      rw [show isiB "int" "bool" = false from by decide]
      simp only [Bool.not_true, Bool.false_eq_true, if_false]
      have hc := cm j hj
      rw [getD_get hj, getD_get jn, getD_get jc] at hc
      rcases hc with e | e
      · rw [decide_eq_true e]
        exact ⟨by trivial, some (.int j), rfl⟩
      · rw [decide_eq_true e]
        by_cases e2 : ms[k][j] = o[j]
        · rw [decide_eq_true e2]
          exact ⟨by trivial, some (.int j), rfl⟩
        · rw [decide_eq_false e2]
          exact ⟨by trivial, some (.int j), rfl⟩
    · rintro σ M'' ⟨rfl, u', rfl⟩
      law_fin
      cases k with
      | zero => exact ⟨by trivial, _, _, _, rfl⟩
      | succ k =>
        rw [if_pos (by simp)]
        have got2 : (ms.map tI)[k]? = some (tI ms[k]) := by
          rw [List.getElem?_map, List.getElem?_eq_getElem (by omega)]
          rfl
        have e : (((k + 1 : Nat) : Int) - 1) = (k : Int) := by omega
        rw [e]
        refine oIx_tup got2 ?_
        rw [oLtX_tI, G.lt k hk]
        exact ⟨by trivial, _, _, _, rfl⟩
  · rintro σ M' ⟨rfl, u, v, w, rfl⟩
    law_fin
    exact gone_same Sub.refl q
end K68

set_option Elab.async false
set_option linter.all false
set_option maxRecDepth 100000
set_option maxHeartbeats 4000000
namespace K68
open PySem PySem.Spec L2 DL

local macro_rules | `(tactic| law_fin) => `(tactic| simp only [zSeq, zSet, zIf, zRet, zSkip, zPar, zPar3, zExpr, zAsg, zNo, zBreak, zCont, xOp, xV, xC, xTst, xAnd, xOr, xNot, xIf, xChain, xB, xCall, c1, c2, o2, aCons, aNil, xTup, xLst, slot, put, oSub, oMul, oFdiv, oMod, oPow, oLe, oGt, oGe, xYes, yN, yTup, yCons, yNil, wipeD, List.set_cons_succ, List.set_cons_zero, kInt, kAbs, kMax2, kMin2, xNeg,
  kLen_tup, List.length_map, if_true, if_false, Bool.false_eq_true, kLen_lst, oEq_int, oNe_int, oEq_tI, oNe_tI, oAdd_int, oAdd_tup])

/-- for x in a list -/
theorem for_listD {a : DE} {g : DG} {b : DS} {R : DEnds} {σ : DL.Env} {M : Mm} (d : D) (items : List D) (ha : ∀ K : DK, K d M → a σ M K) (hd : listD d M = some items) (I : Nat → DL.Env → Mm → Prop) (h0 : I 0 σ M) (hI : ∀ i σ M, I i σ M → listD d M = some items)
    (hs : ∀ (i : Nat) (x : D) σ M, items[i]? = some x → I i σ M → g x σ M fun σ1 M2 => b { R with nx := I (i + 1), ct := I (i + 1), bk := R.nx } σ1 M2) (hn : ∀ σ M, I items.length σ M → R.nx σ M) : zFor (iSeq a) g b R σ M := by
  have key : ∀ ok : Mm → Prop, (∀ i σ M, I i σ M → ok M) → ∃ I : Nat → DL.Env → Mm → Prop, I 0 σ M ∧ (∀ (i : Nat) (x : D) σ M, items[i]? = some x → I i σ M → ok M ∧ g x σ M fun σ1 M2 => b { R with nx := I (i + 1), ct := I (i + 1), bk := R.nx } σ1 M2) ∧ ∀ σ M, I items.length σ M → ok M ∧ R.nx σ M :=
    fun ok h => ⟨I, h0, fun i x σ M hx z => ⟨h i σ M z, hs i x σ M hx z⟩, fun σ M z => ⟨h _ σ M z, hn σ M z⟩⟩
  unfold zFor iSeq
  refine ha _ ?_
  cases d with
  | lst xs =>
    cases hd
    exact key _ fun _ _ _ _ => trivial
  | fz xs =>
    cases hd
    exact key _ fun _ _ _ _ => trivial
  | ptr p =>
    have cell : ∀ M : Mm, listD (.ptr p) M = some items → M p = some (.lst items) := by
      intro M h
      unfold listD at h
      simp only at h
      cases e : M p with
      | none => rw [e] at h; cases h
      | some c =>
        rw [e] at h
        cases c with
        | lst xs => cases h; rfl
        | dK _ => cases h
        | dT _ => cases h
    exact ⟨items, cell M hd, key _ fun i σ M z => cell M (hI i σ M z)⟩
  | _ => cases hd
/-! ### _law_news -/
def rowsN (sz c o : List Int) : Nat → List (List Int)
  | 0 => [[]]
  | k + 1 => (rowsN sz c o k).flatMap fun row => if c.getD k 0 = o.getD k 0 then (List.range (sz.getD k 0).toNat).map fun v => row ++ [((v : Nat) : Int)] else [row ++ [c.getD k 0]]
def newsL (sz c o : List Int) : List (List Int) := if c = o then [] else (rowsN sz c o sz.length).filter fun row => !decide (row = c)
theorem rowsN_len {sz : List Int} (c o : List Int) (h : ∀ s ∈ sz, 1 ≤ s) : ∀ k, k ≤ sz.length → ((rowsN sz c o k).length : Int) ≤ (sz.take k).prod
  | 0, _ => by simp [rowsN]
  | k + 1, hk => by
    have ih := rowsN_len c o h k (by omega)
    have e : sz.take (k + 1) = sz.take k ++ [sz.getD k 0] := by
      rw [getD_get (by omega)]
      exact take_succ' (List.getElem?_eq_getElem (by omega))
    have h1 : 1 ≤ sz.getD k 0 := by
      rw [getD_get (by omega)]
      exact h _ (List.getElem_mem _)
    have l := flatMap_len (fun row => if c.getD k 0 = o.getD k 0 then (List.range (sz.getD k 0).toNat).map fun v => row ++ [((v : Nat) : Int)] else [row ++ [c.getD k 0]]) (sz.getD k 0).toNat (rowsN sz c o k) fun row _ => by
      split
      · rw [List.length_map, List.length_range]
        exact Nat.le_refl _
      · simp only [List.length_singleton]
        omega
    rw [e, prod_app]
    have l2 : ((rowsN sz c o (k + 1)).length : Int) ≤ ((rowsN sz c o k).length : Int) * sz.getD k 0 := by
      have : ((sz.getD k 0).toNat : Int) = sz.getD k 0 := Int.toNat_of_nonneg (by omega)
      have l' : (((rowsN sz c o (k + 1)).length : Nat) : Int) ≤ (((rowsN sz c o k).length * (sz.getD k 0).toNat : Nat) : Int) := by exact_mod_cast l
      rw [Int.natCast_mul, this] at l'
      exact l'
    have := Int.mul_le_mul_of_nonneg_right ih (show 0 ≤ sz.getD k 0 by omega)
    simp only [List.prod_cons, List.prod_nil, Int.mul_one]
    omega
theorem prod_take_le {sz : List Int} (h : ∀ s ∈ sz, 1 ≤ s) (k : Nat) : (sz.take k).prod ≤ sz.prod := by
  have e := prod_app (sz.take k) (sz.drop k)
  rw [List.take_append_drop] at e
  have h1 : 1 ≤ (sz.take k).prod := prod_pos fun s hs => h s (List.mem_of_mem_take hs)
  have h2 : 1 ≤ (sz.drop k).prod := prod_pos fun s hs => h s (List.mem_of_mem_drop hs)
  have := Int.mul_le_mul_of_nonneg_left h2 (show 0 ≤ (sz.take k).prod by omega)
  omega
theorem rowsN_mlen (sz c o : List Int) : ∀ k, ∀ row ∈ rowsN sz c o k, row.length = k
  | 0, row, h => by
    rw [List.mem_singleton.mp h]
    rfl
  | k + 1, row, h => by
    obtain ⟨d, hd, hm⟩ := List.mem_flatMap.mp h
    have ih := rowsN_mlen sz c o k d hd
    split at hm
    · obtain ⟨v, _, rfl⟩ := List.mem_map.mp hm
      rw [List.length_append, ih]
      rfl
    · rw [List.mem_singleton.mp hm, List.length_append, ih]
      rfl
def p__law_news : DSp := fun ds M Q => ∃ sz c o : List Int, ds = [tI sz, tI c, tI o] ∧ c.length = sz.length ∧ o.length = sz.length ∧ sz.length ≤ 1000 ∧ (∀ s ∈ sz, 1 ≤ s) ∧ sz.prod ≤ 600 ∧ Q (.lst ((newsL sz c o).map tI)) M
theorem size_le {sz : List Int} (h : ∀ s ∈ sz, 1 ≤ s) {s : Int} (hs : s ∈ sz) : s ≤ sz.prod := by
  obtain ⟨a, b, rfl⟩ := List.append_of_mem hs
  have ha : 1 ≤ a.prod := prod_pos fun x hx => h x (by simp [hx])
  have hb : 1 ≤ b.prod := prod_pos fun x hx => h x (by simp [hx])
  have h1 := h s hs
  rw [prod_app, List.prod_cons]
  have h2 := Int.mul_le_mul_of_nonneg_left hb (show 0 ≤ s by omega)
  have h3 := Int.mul_le_mul_of_nonneg_right ha (show 0 ≤ s * b.prod by omega)
  omega
theorem q__law_news : ∀ ds M R, ds.length = 3 → p__law_news ds M R → b__law_news (Ends R) (enter 8 ds) M := by
  rintro _ M R - ⟨sz, c, o, rfl, hc, ho, hl, h1, hp, q⟩
  show b__law_news _ [some (tI sz), some (tI c), some (tI o), none, none, none, none, none] M
  unfold b__law_news
  law_fin
  unfold newsL at q
  by_cases e0 : c = o
  · rw [decide_eq_true e0, if_pos rfl]
    rw [if_pos e0] at q
    exact ⟨Nat.zero_le _, gone_same Sub.refl q⟩
  rw [decide_eq_false e0, if_neg Bool.false_ne_true]
  rw [if_neg e0] at q
  refine ⟨Nat.zero_le _, by simp [sizeLine], ?_⟩
  have big : ∀ k, k ≤ sz.length → (rowsN sz c o k).length ≤ 600 := by
    intro k hk
    have := rowsN_len c o h1 k hk
    have := prod_take_le h1 k
    omega
  refine DL.for_range sz.length (by omega) (fun K k => by law_fin; exact k) (fun k σ M' => Sub M M' ∧ ∃ d u v w x, listD d M' = some ((rowsN sz c o k).map tI) ∧ σ = [some (tI sz), some (tI c), some (tI o), some d, u, v, w, x]) ⟨Sub.refl, .lst [tI []], none, none, none, none, rfl, rfl⟩ ?_ ?_
  · rintro k σ M' hk ⟨sub, d, u, v, w, x, hd, rfl⟩
    have kc : k < c.length := by omega
    have ko : k < o.length := by omega
    law_fin
    unfold xLstM
    law_fin
    refine ⟨Nat.zero_le _, fun p np => ?_⟩
    have hd' : ∀ e, listD d (M'.upd p e) = some ((rowsN sz c o k).map tI) := by
      intro e
      cases d with
      | ptr r =>
        have ne : r ≠ p := by
          rintro rfl
          unfold listD at hd
          simp [np] at hd
        unfold listD at hd ⊢
        simp only [Mm.upd_ne ne] at hd ⊢
        exact hd
      | _ => exact hd
    have flen : ∀ i row, (rowsN sz c o k)[i]? = some row → (((rowsN sz c o k).take (i + 1)).flatMap fun row => if c.getD k 0 = o.getD k 0 then (List.range (sz.getD k 0).toNat).map fun v => row ++ [((v : Nat) : Int)] else [row ++ [c.getD k 0]]).length ≤ 600 := by
      intro i row _
      refine Nat.le_trans ?_ (big (k + 1) hk)
      have e : rowsN sz c o k = (rowsN sz c o k).take (i + 1) ++ (rowsN sz c o k).drop (i + 1) := (List.take_append_drop _ _).symm
      show _ ≤ (List.flatMap _ (rowsN sz c o k)).length
      conv => rhs; rw [e]
      rw [List.flatMap_append, List.length_append]
      exact Nat.le_add_right _ _
    refine for_listD d _ (fun K k => k) (hd' _) (fun i σ N => N = M'.upd p (.lst ((((rowsN sz c o k).take i).flatMap fun row => if c.getD k 0 = o.getD k 0 then (List.range (sz.getD k 0).toNat).map fun v => row ++ [((v : Nat) : Int)] else [row ++ [c.getD k 0]]).map tI)) ∧
      ∃ w x, σ = [some (tI sz), some (tI c), some (tI o), some d, some (.int k), some (.ptr p), w, x]) ⟨rfl, w, x, rfl⟩ (fun i σ N z => by rw [z.1]; exact hd' _) ?_ ?_
    · rintro i y σ N hy ⟨rfl, w', x', rfl⟩
      rw [List.getElem?_map] at hy
      obtain ⟨row, hrow, rfl⟩ := Option.map_eq_some_iff.mp hy
      have rl := rowsN_mlen sz c o k row (List.mem_of_getElem? hrow)
      have tk := take_succ' hrow
      have fl := flen i row hrow
      rw [tk, List.flatMap_append, List.flatMap_cons, List.flatMap_nil, List.append_nil, List.length_append] at fl
      law_fin
      simp only [oIx_tI kc, oIx_tI ko, oEq_int]
      rw [getD_get kc, getD_get ko] at fl ⊢
      unfold xExt xApp
      law_fin
      by_cases e : c[k] = o[k]
      · rw [decide_eq_true e, if_pos rfl]
        rw [if_pos e] at fl
        refine ⟨⟨_, Mm.upd_same⟩, ?_⟩
        have sk : sz[k] ≤ 600 := Int.le_trans (size_le h1 (List.getElem_mem hk)) hp
        have sk1 : 1 ≤ sz[k] := h1 _ (List.getElem_mem hk)
        have en : sz.getD k 0 = sz[k] := getD_get hk
        obtain ⟨m, hm⟩ : ∃ m : Nat, sz[k] = (m : Int) := ⟨sz[k].toNat, by omega⟩
        refine lc_pure (rangeD 0 (m : Int)) (fun y => some (.tup (row.map D.int ++ [y]))) (fun K z => ?_) ?_ ?_ ?_
        · unfold iRange1
          law_fin
          rw [oIx_tI hk, hm]
          exact ⟨rng_nat (by omega), z⟩
        · rw [rangeD_len]
          have e2 : sizeLine = 2 ^ 24 := rfl
          omega
        · intro y N' hy s K1 K0 k1 k0
          law_fin
          refine ⟨by simp [sizeLine], ?_, k1 _ rfl⟩
          have e2 : sizeLine = 2 ^ 24 := rfl
          simp only [List.length_cons, List.length_nil]
          omega
        · have e3 : (rangeD 0 (m : Int)).filterMap (fun y => some (.tup (row.map D.int ++ [y]))) = ((List.range (sz.getD k 0).toNat).map fun v => row ++ [((v : Nat) : Int)]).map tI := by
            unfold rangeD
            rw [en, hm, List.map_map, fm_some, List.map_map, Int.sub_zero]
            congr 1
            funext x
            simp
          rw [e3]
          refine ⟨_, _, Mm.upd_same, rfl, ?_, ?_, some (tI row), _, rfl⟩
          · have e2 : sizeLine = 2 ^ 24 := rfl
            simp only [List.length_map] at fl ⊢
            omega
          · rw [Mm.upd_upd, tk, List.flatMap_append, List.flatMap_cons, List.flatMap_nil, List.append_nil, if_pos e, ← List.map_append]
      · rw [decide_eq_false e, if_neg Bool.false_ne_true]
        rw [if_neg e] at fl
        refine ⟨⟨_, Mm.upd_same⟩, ?_⟩
        rw [oIx_tI kc]
        refine ⟨by simp [sizeLine], ?_, _, Mm.upd_same, ?_, ?_, some (tI row), x', rfl⟩
        · have e2 : sizeLine = 2 ^ 24 := rfl
          simp only [List.length_cons, List.length_nil]
          omega
        · have e2 : sizeLine = 2 ^ 24 := rfl
          simp only [List.length_map, List.length_singleton] at fl ⊢
          omega
        · rw [Mm.upd_upd, tk, List.flatMap_append, List.flatMap_cons, List.flatMap_nil, List.append_nil, if_neg e, List.map_append, tI_app]
          rfl
    · rintro σ N ⟨rfl, w', x', rfl⟩
      rw [List.length_map, List.take_length]
      law_fin
      refine ⟨Sub.new np sub, .ptr p, some (.int k), some (.ptr p), w', x', ?_, rfl⟩
      unfold listD
      simp only [Mm.upd_same]
      rfl
  · rintro σ M' ⟨sub, d, u, v, w, x, hd, rfl⟩
    have bl := big sz.length (Nat.le_refl _)
    law_fin
    refine lc_pureL ((rowsN sz c o sz.length).map tI) (fun x => if (!eqB x (tI c)) = true then some x else none) (fun K z => iSeq_listD d (fun K k => k) hd K z) ?_ ?_ ?_
    · have e2 : sizeLine = 2 ^ 24 := rfl
      rw [List.length_map]
      omega
    · intro y N hy s K1 K0 k1 k0
      obtain ⟨row, hr, rfl⟩ := List.mem_map.mp hy
      rw [eqB_tI] at k1 k0
      law_fin
      by_cases e : row = c
      · rw [decide_eq_true e] at k0 ⊢
        exact k0 rfl
      · rw [decide_eq_false e] at k1 ⊢
        exact k1 _ rfl
    · have e : ((rowsN sz c o sz.length).map tI).filterMap (fun x => if (!eqB x (tI c)) = true then some x else none) = ((rowsN sz c o sz.length).filter fun row => !decide (row = c)).map tI := by
        rw [List.filterMap_map, ← filterMap_if]
        congr 1
        funext row
        show (if (!eqB (tI row) (tI c)) = true then some (tI row) else none) = _
        rw [eqB_tI]
      rw [e]
      exact gone_same sub q
end K68

set_option Elab.async false
set_option linter.all false
set_option maxRecDepth 100000
set_option maxHeartbeats 4000000
namespace K68
open PySem PySem.Spec L2 DL

local macro_rules | `(tactic| law_fin) => `(tactic| try simp only [zSeq, zSet, zIf, zRet, zSkip, zPar, zPar3, zExpr, zAsg, zNo, zBreak, zCont, xOp, xV, xC, xTst, xAnd, xOr, xNot, xIf, xChain, xB, xCall, c1, c2, o2, aCons, aNil, xTup, xLst, slot, put, oSub, oMul, oFdiv, oMod, oPow, oLe, oGt, oGe, xYes, yN, yTup, yCons, yNil, wipeD, List.set_cons_succ, List.set_cons_zero, kInt, kAbs, kMax2, kMin2, xNeg,
  kLen_tup, List.length_map, if_true, if_false, Bool.false_eq_true, kLen_lst, oEq_int, oNe_int, oEq_tI, oNe_tI, oAdd_int, oAdd_tup])

/-! ### blind_tears -/
structure SzOk (sz : List Int) : Prop where
  b : ∀ s ∈ sz, 2 ≤ s ∧ s ≤ 9
  l1 : 1 ≤ sz.length
  l6 : sz.length ≤ 6
  p : sz.prod ≤ 128
theorem SzOk.one {sz : List Int} (h : SzOk sz) : ∀ s ∈ sz, 1 ≤ s := fun s hs => by have := h.b s hs; omega
def tabK (cs : List (List Int)) (vals : List Int) : List (List Key × D) := cs.zipWith (fun c v => (c.map Sum.inl, D.int v)) vals
def look (cs : List (List Int)) (vals : List Int) (c : List Int) : Int := match valD (tabK cs vals) (c.map Sum.inl) with
  | some (.int v) => v
  | _ => 0
theorem inl_inj {a b : List Int} (h : a.map (Sum.inl : Int → Key) = b.map Sum.inl) : a = b := by
  induction a generalizing b with
  | nil => cases b with
    | nil => rfl
    | cons _ _ => cases h
  | cons x a ih => cases b with
    | nil => cases h
    | cons y b =>
      rw [List.map_cons, List.map_cons] at h
      obtain ⟨h1, h2⟩ := List.cons.inj h
      cases h1
      rw [ih h2]
theorem tabK_val : ∀ (cs : List (List Int)) (vals : List Int) (j : Nat) (c : List Int) (v : Int), cs.Nodup → cs[j]? = some c → vals[j]? = some v → valD (tabK cs vals) (c.map Sum.inl) = some (.int v)
  | [], _, j, c, v, _, h, _ => by simp at h
  | _ :: _, [], j, c, v, _, _, h => by simp at h
  | d :: cs, u :: vals, 0, c, v, _, h1, h2 => by
    simp at h1 h2
    subst h1 h2
    unfold valD tabK
    rw [List.zipWith_cons_cons, List.find?_cons, decide_eq_true rfl]
    rfl
  | d :: cs, u :: vals, j + 1, c, v, nd, h1, h2 => by
    obtain ⟨n1, n2⟩ := List.nodup_cons.mp nd
    have h1' : cs[j]? = some c := by simpa using h1
    have ih := tabK_val cs vals j c v n2 h1' (by simpa using h2)
    have ne : d.map (Sum.inl : Int → Key) ≠ c.map Sum.inl := fun e => n1 (by rw [inl_inj e]; exact List.mem_of_getElem? h1')
    unfold valD tabK at ih ⊢
    rw [List.zipWith_cons_cons, List.find?_cons, decide_eq_false ne]
    exact ih
theorem look_at {cs : List (List Int)} {vals : List Int} {j : Nat} {c : List Int} {v : Int} (nd : cs.Nodup) (h1 : cs[j]? = some c) (h2 : vals[j]? = some v) : look cs vals c = v := by
  unfold look
  rw [tabK_val cs vals j c v nd h1 h2]
theorem look_val {cs : List (List Int)} {vals : List Int} {c : List Int} (nd : cs.Nodup) (hl : vals.length = cs.length) (h : c ∈ cs) : valD (tabK cs vals) (c.map Sum.inl) = some (.int (look cs vals c)) := by
  obtain ⟨j, hj, rfl⟩ := List.getElem_of_mem h
  have h1 : cs[j]? = some cs[j] := List.getElem?_eq_getElem hj
  have h2 : vals[j]? = some (vals[j]'(by omega)) := List.getElem?_eq_getElem (by omega)
  rw [look_at nd h1 h2, tabK_val cs vals j _ _ nd h1 h2]
def tornF (cs : List (List Int)) (vals o n : List Int) : List (List (List Int)) := ((mixL o n).filter fun c => decide (look cs vals c = look cs vals o) || decide (look cs vals c = look cs vals n)).map fun c => [o, n, c]
/-- for x in a tuple of such tuples -/
theorem for_cs {a : DE} {g : DG} {b : DS} {R : DEnds} {σ : DL.Env} {M : Mm} (cs : List (List Int)) (ha : ∀ K : DK, K (.tup (cs.map tI)) M → a σ M K) (I : Nat → DL.Env → Mm → Prop) (h0 : I 0 σ M)
    (hs : ∀ (i : Nat) (c : List Int) σ M, cs[i]? = some c → I i σ M → g (tI c) σ M fun σ1 M2 => b { R with nx := I (i + 1), ct := I (i + 1), bk := R.nx } σ1 M2) (hn : ∀ σ M, I cs.length σ M → R.nx σ M) : zFor (iSeq a) g b R σ M := by
  refine for_items (cs.map tI) (fun K k => ha _ k) I h0 (fun i x σ M hx z => ?_) fun σ M z => hn σ M (by rw [List.length_map] at z; exact z)
  rw [List.getElem?_map] at hx
  obtain ⟨c, hc, rfl⟩ := Option.map_eq_some_iff.mp hx
  exact hs i c σ M hc z
theorem flat_succ {α β : Type} {xs : List α} {i : Nat} {x : α} (h : xs[i]? = some x) (f : α → List β) : (xs.take (i + 1)).flatMap f = (xs.take i).flatMap f ++ f x := by
  rw [take_succ' h, List.flatMap_append, List.flatMap_cons, List.flatMap_nil, List.append_nil]
def foundL (cs : List (List Int)) (vals : List Int) : List (List (List Int)) := cs.flatMap fun o => cs.flatMap fun n => tornF cs vals o n
def p_blind_tears : DSp := fun ds M Q => ∃ sz vals : List Int, ds = [tI sz, tI vals] ∧ SzOk sz ∧ (vals.length : Int) = sz.prod ∧ Q (.tup ((sortBy tT (foundL (contents sz) vals)).map tT)) M
theorem contents_nodup : ∀ sz : List Int, (contents sz).Nodup
  | [] => by simp [contents]
  | s :: r => by
    refine nodup_flatMap (contents_nodup r) (fun c _ => nodup_mapOn List.nodup_range fun x _ y _ e => by have := (List.cons.inj e).1; omega) ?_
    intro c _ d _ z hz hz'
    obtain ⟨x, _, rfl⟩ := List.mem_map.mp hz
    obtain ⟨y, _, e⟩ := List.mem_map.mp hz'
    exact (List.cons.inj e).2.symm
theorem contents_mem : ∀ {sz : List Int} {c : List Int}, c ∈ contents sz ↔ c.length = sz.length ∧ ∀ i, i < sz.length → 0 ≤ c.getD i 0 ∧ c.getD i 0 < sz.getD i 0
  | [], c => by
    show c ∈ [[]] ↔ _
    rw [List.mem_singleton]
    constructor
    · rintro rfl
      exact ⟨rfl, fun i h => absurd h (Nat.not_lt_zero _)⟩
    · rintro ⟨h, _⟩
      exact List.length_eq_zero_iff.mp h
  | s :: r, c => by
    show c ∈ List.flatMap _ _ ↔ _
    rw [List.mem_flatMap]
    constructor
    · rintro ⟨d, hd, hm⟩
      obtain ⟨v, hv, rfl⟩ := List.mem_map.mp hm
      have hv' := List.mem_range.mp hv
      obtain ⟨h1, h2⟩ := contents_mem.mp hd
      refine ⟨by rw [List.length_cons, List.length_cons, h1], fun i hi => ?_⟩
      cases i with
      | zero =>
        show 0 ≤ (v : Int) ∧ (v : Int) < s
        omega
      | succ i => exact h2 i (by rw [List.length_cons] at hi; omega)
    · rintro ⟨h1, h2⟩
      cases c with
      | nil => cases h1
      | cons x d =>
        have h0 := h2 0 (Nat.succ_pos _)
        have h0' : 0 ≤ x ∧ x < s := h0
        refine ⟨d, contents_mem.mpr ⟨by simpa using h1, fun i hi => ?_⟩, List.mem_map.mpr ⟨x.toNat, List.mem_range.mpr (by omega), ?_⟩⟩
        · exact h2 (i + 1) (by rw [List.length_cons]; omega)
        · rw [Int.toNat_of_nonneg h0'.1]
theorem mixL_len (o n : List Int) : (mixL o n).length ≤ 2 ^ o.length := by
  unfold mixL
  rw [(sortBy_perm _ _).length_eq]
  exact Nat.le_trans (List.length_filter_le _ _) (amix_len o n _)
theorem mixL_in {sz o n c : List Int} (ho : o ∈ contents sz) (hn : n ∈ contents sz) (h : c ∈ mixL o n) : c ∈ contents sz := by
  obtain ⟨⟨h1, h2⟩, _⟩ := (mixL_mem o n c).mp h
  obtain ⟨o1, o2⟩ := contents_mem.mp ho
  obtain ⟨n1, n2⟩ := contents_mem.mp hn
  refine contents_mem.mpr ⟨by omega, fun i hi => ?_⟩
  rcases h2 i (by omega) with e | e
  · rw [e]
    exact o2 i hi
  · rw [e]
    exact n2 i hi
theorem keys_tI (c : List Int) : (c.map D.int).map keyD = (c.map (Sum.inl : Int → Key)).map some := by
  rw [List.map_map, List.map_map]
  rfl
theorem xGet_T {o a : DE} {σ : DL.Env} {M : Mm} {Q : DK} {p : Addr} {kvs : List (List Key × D)} {c : List Int} {d : D} (ho : ∀ K : DK, K (.ptr p) M → o σ M K) (ha : ∀ K : DK, K (tI c) M → a σ M K) (hp : M p = some (.dT kvs)) (hv : valD kvs (c.map Sum.inl) = some d) (q : Q d M) : xGet o a σ M Q := by
  refine ho _ (ha _ ⟨p, rfl, ?_⟩)
  rw [hp]
  exact ⟨_, _, d, rfl, keys_tI c, hv, q⟩
theorem xGet_K {o a : DE} {σ : DL.Env} {M : Mm} {Q : DK} {p : Addr} {kvs : List (Key × D)} {i : Int} {d : D} (ho : ∀ K : DK, K (.ptr p) M → o σ M K) (ha : ∀ K : DK, K (.int i) M → a σ M K) (hp : M p = some (.dK kvs)) (hv : valD kvs (Sum.inl i) = some d) (q : Q d M) : xGet o a σ M Q := by
  refine ho _ (ha _ ⟨p, rfl, ?_⟩)
  rw [hp]
  exact ⟨_, d, rfl, hv, q⟩
theorem xApp_tT {o a : DE} {σ : DL.Env} {M : Mm} {Q : DK} {p : Addr} {ts : List (List (List Int))} {t : List (List Int)} (ho : ∀ K : DK, K (.ptr p) M → o σ M K) (ha : ∀ K : DK, K (tT t) M → a σ M K) (hp : M p = some (.lst (ts.map tT))) (hl : ts.length < sizeLine) (q : Q .non (M.upd p (.lst ((ts ++ [t]).map tT)))) : xApp o a σ M Q := by
  refine ho _ ⟨⟨_, hp⟩, ha _ ⟨_, hp, by rw [List.length_map]; exact hl, ?_⟩⟩
  rw [List.map_append] at q
  exact q
theorem putD_new {κ : Type} [DecidableEq κ] {kvs : List (κ × D)} {k : κ} {d : D} (h : ∀ kv ∈ kvs, kv.1 ≠ k) : putD kvs k d = kvs ++ [(k, d)] := by
  unfold putD
  rw [if_neg]
  rw [Bool.not_eq_true, List.any_eq_false]
  intro kv hkv
  rw [decide_eq_false (h kv hkv)]
  exact Bool.false_ne_true
theorem q_blind_tears : ∀ ds M R, ds.length = 2 → p_blind_tears ds M R → b_blind_tears p_are_sizes p_contents_of p_mixtures (Ends R) (enter 9 ds) M := by
  rintro _ M R - ⟨sz, vals, rfl, ok, hv, q⟩
  show b_blind_tears _ _ _ _ [some (tI sz), some (tI vals), none, none, none, none, none, none, none] M
  unfold b_blind_tears
  law_fin
  refine ⟨sz, rfl, ok.b, ok.l6, ok.l1, by have := ok.p; omega, ?_⟩
  simp only [Bool.not_true, Bool.false_eq_true, if_false]
  refine ⟨sz, rfl, ok.one, by have := ok.l6; omega, by have := ok.p; omega, ?_⟩
  have cl := contents_len sz fun s hs => by have := ok.b s hs; omega
  have nd := contents_nodup sz
  have cm : ∀ c ∈ contents sz, c.length = sz.length := fun c hc => contents_mem_len hc
  have hmix : ∀ o ∈ contents sz, ∀ n ∈ contents sz, ∀ c ∈ mixL o n, c ∈ contents sz := fun o ho n hn c hc => mixL_in ho hn hc
  generalize contents sz = cs at q cl nd cm hmix ⊢
  have hvl : vals.length = cs.length := by omega
  have cs128 : cs.length ≤ 128 := by have := ok.p; omega
  unfold xDcT DL.iEnum
  law_fin
  intro pt npt
  refine ⟨fun i acc M' => acc = (tabK cs vals).take i ∧ M' = M.upd pt (.dT acc), ⟨rfl, rfl⟩, ?_, ?_⟩
  · rintro i x acc M' hx ⟨rfl, rfl⟩
    obtain ⟨y, hy, rfl⟩ := enumD_get hx
    rw [List.getElem?_map] at hy
    obtain ⟨c, hc, rfl⟩ := Option.map_eq_some_iff.mp hy
    have hi : i < cs.length := (List.getElem?_eq_some_iff.mp hc).1
    have hiv : i < vals.length := by omega
    have tg : (tabK cs vals)[i]? = some (c.map Sum.inl, .int vals[i]) := by
      unfold tabK
      rw [List.getElem?_zipWith, hc, List.getElem?_eq_getElem hiv]
    have tl : (tabK cs vals).length = cs.length := by
      unfold tabK
      rw [List.length_zipWith]
      omega
    law_fin
    refine ⟨trivial, rfl, ?_⟩
    rw [oIx_tI hiv]
    refine ⟨_, _, rfl, keys_tI c, Mm.upd_same, ?_, ?_, ?_⟩
    · have e2 : sizeLine = 2 ^ 24 := rfl
      rw [List.length_take]
      omega
    · rw [take_succ' tg]
      refine putD_new fun kv hkv e => ?_
      obtain ⟨j, hj, rfl⟩ := List.getElem_of_mem hkv
      rw [List.length_take] at hj
      rw [List.getElem_take] at e
      have e' : ((tabK cs vals)[j]'(by omega)).1 = (cs[j]'(by omega)).map Sum.inl := by
        unfold tabK
        rw [List.getElem_zipWith]
      rw [e'] at e
      have e3 := inl_inj e
      have h3 : cs[i]'hi = c := (List.getElem?_eq_some_iff.mp hc).2
      have := (List.getElem?_inj (i := j) (j := i) (by omega) nd).mp (by rw [List.getElem?_eq_getElem (by omega), List.getElem?_eq_getElem hi, e3, h3])
      omega
    · rw [Mm.upd_upd]
  · rintro acc M' ⟨rfl, rfl⟩
    refine ⟨trivial, ?_⟩
    rw [enumD_len, List.length_map, List.take_of_length_le (by unfold tabK; rw [List.length_zipWith]; omega)]
    law_fin
    unfold xLstM
    law_fin
    refine ⟨Nat.zero_le _, fun pf npf => ?_⟩
    have ne : pt ≠ pf := by
      rintro rfl
      rw [Mm.upd_same] at npf
      cases npf
    have tab : ∀ e, ((M.upd pt (.dT (tabK cs vals))).upd pf e) pt = some (.dT (tabK cs vals)) := fun e => by rw [Mm.upd_ne ne, Mm.upd_same]
    have len64 : ∀ o ∈ cs, ∀ n, (mixL o n).length ≤ 64 := by
      intro o ho n
      refine Nat.le_trans (mixL_len o n) ?_
      rw [cm o ho]
      exact Nat.le_trans (Nat.pow_le_pow_right (by omega) ok.l6) (by decide)
    have lenN : ∀ o ∈ cs, ∀ n, (tornF cs vals o n).length ≤ 64 := by
      intro o ho n
      unfold tornF
      rw [List.length_map]
      exact Nat.le_trans (List.length_filter_le _ _) (len64 o ho n)
    have lenO : ∀ o ∈ cs, ∀ j, ((cs.take j).flatMap fun n => tornF cs vals o n).length ≤ 8192 := by
      intro o ho j
      have := flatMap_len (fun n => tornF cs vals o n) 64 (cs.take j) fun n _ => lenN o ho n
      rw [List.length_take] at this
      omega
    have lenA : ∀ i, i ≤ cs.length → ((cs.take i).flatMap fun o => cs.flatMap fun n => tornF cs vals o n).length ≤ i * 8192 := by
      intro i hi
      have := flatMap_len (fun o => cs.flatMap fun n => tornF cs vals o n) 8192 (cs.take i) fun o ho => by
        have := lenO o (List.mem_of_mem_take ho) cs.length
        rw [List.take_length] at this
        exact this
      rw [List.length_take] at this
      omega
    refine for_cs cs (fun K k => k) (fun i σ N => N = (M.upd pt (.dT (tabK cs vals))).upd pf (.lst (((cs.take i).flatMap fun o => cs.flatMap fun n => tornF cs vals o n).map tT)) ∧
      ∃ u v w x, σ = [some (tI sz), some (tI vals), some (.tup (cs.map tI)), some (.ptr pt), u, v, some (.ptr pf), w, x]) ⟨rfl, _, _, _, _, rfl⟩ ?_ ?_
    · rintro i o σ N hi ⟨rfl, u, v, w, x, rfl⟩
      have ho := List.mem_of_getElem? hi
      have hil := (List.getElem?_eq_some_iff.mp hi).1
      have la := lenA i (Nat.le_of_lt hil)
      rw [flat_succ hi]
      generalize ((cs.take i).flatMap fun o => cs.flatMap fun n => tornF cs vals o n) = A at la ⊢
      law_fin
      refine for_cs cs (fun K k => k) (fun j σ N => N = (M.upd pt (.dT (tabK cs vals))).upd pf (.lst ((A ++ (cs.take j).flatMap fun n => tornF cs vals o n).map tT)) ∧
        ∃ u v x, σ = [some (tI sz), some (tI vals), some (.tup (cs.map tI)), some (.ptr pt), u, v, some (.ptr pf), some (tI o), x]) ⟨by simp, _, _, _, rfl⟩ ?_ ?_
      · rintro j n σ N hj ⟨rfl, u, v, x, rfl⟩
        have hn := List.mem_of_getElem? hj
        have lb := lenO o ho j
        rw [flat_succ hj]
        generalize ((cs.take j).flatMap fun n => tornF cs vals o n) = B at lb ⊢
        law_fin
        refine for_cs (mixL o n) (fun K k => ?_) (fun l σ N => N = (M.upd pt (.dT (tabK cs vals))).upd pf (.lst ((A ++ B ++ (((mixL o n).take l).filter fun c => decide (look cs vals c = look cs vals o) || decide (look cs vals c = look cs vals n)).map fun c => [o, n, c]).map tT)) ∧
          ∃ u v, σ = [some (tI sz), some (tI vals), some (.tup (cs.map tI)), some (.ptr pt), u, v, some (.ptr pf), some (tI o), some (tI n)]) ⟨by simp, _, _, rfl⟩ ?_ ?_
        · exact ⟨o, n, rfl, by rw [cm o ho, cm n hn], by rw [cm o ho]; exact ok.l1, by rw [cm o ho]; have := ok.l6; omega, k⟩
        · rintro l c σ N hc ⟨rfl, u, v, rfl⟩
          have hcs : c ∈ cs := hmix o ho n hn c (List.mem_of_getElem? hc)
          have hll := (List.getElem?_eq_some_iff.mp hc).1
          have lc := len64 o ho n
          rw [take_succ' hc, List.filter_append]
          have ll : (((mixL o n).take l).filter fun c => decide (look cs vals c = look cs vals o) || decide (look cs vals c = look cs vals n)).length ≤ 64 := by
            refine Nat.le_trans (List.length_filter_le _ _) ?_
            rw [List.length_take]
            omega
          generalize (((mixL o n).take l).filter fun c => decide (look cs vals c = look cs vals o) || decide (look cs vals c = look cs vals n)) = C at ll ⊢
          have room : (A ++ B ++ C.map fun c => [o, n, c]).length < sizeLine := by
            have e2 : sizeLine = 2 ^ 24 := rfl
            rw [List.length_append, List.length_append, List.length_map]
            omega
          law_fin
          have get : ∀ (d : List Int) (K : DK) (N : Mm) (x : DE), d ∈ cs → N pt = some (.dT (tabK cs vals)) → (∀ K : DK, K (tI d) N → x [some (tI sz), some (tI vals), some (.tup (cs.map tI)), some (.ptr pt), u, some (tI c), some (.ptr pf), some (tI o), some (tI n)] N K) → K (.int (look cs vals d)) N →
              xGet (xV 3) x [some (tI sz), some (tI vals), some (.tup (cs.map tI)), some (.ptr pt), u, some (tI c), some (.ptr pf), some (tI o), some (tI n)] N K :=
            fun d K N x hd hN hx k => xGet_T (fun K k => k) hx hN (look_val nd hvl hd) k
          refine get c _ _ _ hcs (tab _) (fun K k => k) ?_
          refine get o _ _ _ ho (tab _) (fun K k => k) ?_
          rw [oEq_int]
          have done : xApp (xV 6) (xTup (aCons (xV 7) (aCons (xV 8) (aCons (xV 5) aNil)))) [some (tI sz), some (tI vals), some (.tup (cs.map tI)), some (.ptr pt), u, some (tI c), some (.ptr pf), some (tI o), some (tI n)] ((M.upd pt (.dT (tabK cs vals))).upd pf (.lst ((A ++ B ++ C.map fun c => [o, n, c]).map tT)))
              fun _ N => N = (M.upd pt (.dT (tabK cs vals))).upd pf (.lst ((A ++ B ++ (C ++ [c]).map fun c => [o, n, c]).map tT)) ∧
                ∃ u' v', [some (tI sz), some (tI vals), some (.tup (cs.map tI)), some (.ptr pt), u, some (tI c), some (.ptr pf), some (tI o), some (tI n)] = [some (tI sz), some (tI vals), some (.tup (cs.map tI)), some (.ptr pt), u', v', some (.ptr pf), some (tI o), some (tI n)] := by
            refine xApp_tT (t := [o, n, c]) (fun K k => k) (fun K k => ?_) Mm.upd_same room ?_
            · law_fin
              exact ⟨by simp [sizeLine], k⟩
            · refine ⟨?_, u, _, rfl⟩
              rw [Mm.upd_upd, List.map_append (f := fun c => [o, n, c])]
              simp only [List.map_cons, List.map_nil, List.append_assoc]
          by_cases e1 : look cs vals c = look cs vals o
          · have f1 : ([c].filter fun c => decide (look cs vals c = look cs vals o) || decide (look cs vals c = look cs vals n)) = [c] := by simp [e1]
            rw [f1, decide_eq_true e1]
            exact done
          · rw [decide_eq_false e1]
            refine get c _ _ _ hcs (tab _) (fun K k => k) ?_
            refine get n _ _ _ hn (tab _) (fun K k => k) ?_
            rw [oEq_int]
            by_cases e2 : look cs vals c = look cs vals n
            · have f1 : ([c].filter fun c => decide (look cs vals c = look cs vals o) || decide (look cs vals c = look cs vals n)) = [c] := by simp [e2]
              rw [f1, decide_eq_true e2]
              exact done
            · have f1 : ([c].filter fun c => decide (look cs vals c = look cs vals o) || decide (look cs vals c = look cs vals n)) = [] := by simp [e1, e2]
              rw [f1, decide_eq_false e2, List.append_nil]
              exact ⟨rfl, u, _, rfl⟩
        · rintro σ N ⟨rfl, u, v, rfl⟩
          rw [List.take_length]
          refine ⟨?_, u, v, some (tI n), rfl⟩
          rw [List.append_assoc]
          rfl
      · rintro σ N ⟨rfl, u, v, x, rfl⟩
        rw [List.take_length]
        exact ⟨rfl, u, v, some (tI o), x, rfl⟩
    · rintro σ N ⟨rfl, u, v, w, x, rfl⟩
      rw [List.take_length]
      law_fin
      refine kSorted_map (f := tT) (l := foundL cs vals) ?_ (wf_tT 58) alike_tT (fun t ht => ?_) ⟨_, rfl, gone_same ?_ q⟩
      · unfold listD
        simp only [Mm.upd_same]
        rfl
      · obtain ⟨o, _, h1⟩ := List.mem_flatMap.mp ht
        obtain ⟨n, _, h2⟩ := List.mem_flatMap.mp h1
        obtain ⟨c, _, rfl⟩ := List.mem_map.mp h2
        exact ⟨_, _, rfl⟩
      · exact Sub.new npf (Sub.new npt Sub.refl)
end K68

set_option Elab.async false
set_option linter.all false
set_option maxRecDepth 100000
set_option maxHeartbeats 4000000
namespace K68
open PySem PySem.Spec L2 DL

local macro_rules | `(tactic| law_fin) => `(tactic| try simp only [zSeq, zSet, zIf, zRet, zSkip, zPar, zPar3, zExpr, zAsg, zNo, zBreak, zCont, xOp, xV, xC, xTst, xAnd, xOr, xNot, xIf, xChain, xB, xCall, c1, c2, o2, aCons, aNil, xTup, xLst, slot, put, oSub, oMul, oFdiv, oMod, oPow, oLe, oGt, oGe, xYes, yN, yTup, yCons, yNil, wipeD, List.set_cons_succ, List.set_cons_zero, kInt, kAbs, kMax2, kMin2, xNeg,
  kLen_tup, List.length_map, if_true, if_false, Bool.false_eq_true, kLen_lst, oEq_int, oNe_int, oEq_tI, oNe_tI, oAdd_int, oAdd_tup])

/-! ### _law_tears -/
def grp (sz vals : List Int) (v : Int) (k : Nat) : List (List Int) := ((List.range k).filter fun i => decide (vals.getD i 0 = v)).map fun i => digits sz ((i : Nat) : Int)
theorem grp_succ (sz vals : List Int) (v : Int) (k : Nat) : grp sz vals v (k + 1) = grp sz vals v k ++ if vals.getD k 0 = v then [digits sz (k : Int)] else [] := by
  unfold grp
  rw [List.range_succ, List.filter_append, List.map_append]
  congr 1
  by_cases h : vals.getD k 0 = v
  · rw [if_pos h, List.filter_cons, if_pos (by simpa using h)]
    rfl
  · rw [if_neg h, List.filter_cons, if_neg (by simpa using h)]
    rfl
theorem grp_len (sz vals : List Int) (v : Int) (k : Nat) : (grp sz vals v k).length ≤ k := by
  unfold grp
  rw [List.length_map]
  exact Nat.le_trans (List.length_filter_le _ _) (by rw [List.length_range]; exact Nat.le_refl _)
def kvD (kvs : List (Int × Addr)) : List (Key × D) := kvs.map fun z => (Sum.inl z.1, D.ptr z.2)
theorem kvD_some : ∀ {kvs : List (Int × Addr)} {v : Int}, v ∈ kvs.map (·.1) → ∃ r, (v, r) ∈ kvs ∧ valD (kvD kvs) (Sum.inl v) = some (.ptr r)
  | [], v, h => by cases h
  | (u, r) :: kvs, v, h => by
    by_cases e : u = v
    · subst e
      refine ⟨r, List.mem_cons_self, ?_⟩
      unfold valD kvD
      rw [List.map_cons, List.find?_cons, decide_eq_true rfl]
      rfl
    · have h' : v ∈ kvs.map (·.1) := by
        rcases List.mem_cons.mp h with z | z
        · exact (e z.symm).elim
        · exact z
      obtain ⟨r', h1, h2⟩ := kvD_some h'
      refine ⟨r', List.mem_cons_of_mem _ h1, ?_⟩
      have ne : (Sum.inl u : Key) ≠ Sum.inl v := fun z => e (Sum.inl.inj z)
      unfold valD kvD at h2 ⊢
      rw [List.map_cons, List.find?_cons, decide_eq_false ne]
      exact h2
theorem kvD_none : ∀ {kvs : List (Int × Addr)} {v : Int}, v ∉ kvs.map (·.1) → valD (kvD kvs) (Sum.inl v) = none ∧ ∀ kv ∈ kvD kvs, kv.1 ≠ Sum.inl v
  | [], v, h => ⟨rfl, fun _ z => by cases z⟩
  | (u, r) :: kvs, v, h => by
    rw [List.map_cons, List.mem_cons] at h
    obtain ⟨h1, h2⟩ := kvD_none (kvs := kvs) (v := v) fun z => h (Or.inr z)
    have ne : (Sum.inl u : Key) ≠ Sum.inl v := fun z => h (Or.inl (Sum.inl.inj z).symm)
    refine ⟨?_, fun kv hkv => ?_⟩
    · unfold valD kvD at h1 ⊢
      rw [List.map_cons, List.find?_cons, decide_eq_false ne]
      exact h1
    · rcases List.mem_cons.mp hkv with rfl | z
      · exact ne
      · exact h2 kv z
theorem fst_inj {kvs : List (Int × Addr)} (nd : (kvs.map (·.1)).Nodup) : ∀ {v : Int} {r r' : Addr}, (v, r) ∈ kvs → (v, r') ∈ kvs → r = r' := by
  induction kvs with
  | nil => intro _ _ _ h; cases h
  | cons z kvs ih =>
    intro v r r' h h'
    rw [List.map_cons, List.nodup_cons] at nd
    rcases List.mem_cons.mp h with e | e
    · rcases List.mem_cons.mp h' with e' | e'
      · rw [← e] at e'
        cases e'
        rfl
      · exact (nd.1 (by rw [← e]; exact List.mem_map.mpr ⟨_, e', rfl⟩)).elim
    · rcases List.mem_cons.mp h' with e' | e'
      · exact (nd.1 (by rw [← e']; exact List.mem_map.mpr ⟨_, e, rfl⟩)).elim
      · exact ih nd.2 e e'
theorem snd_inj {kvs : List (Int × Addr)} (nd : (kvs.map (·.2)).Nodup) : ∀ {v v' : Int} {r : Addr}, (v, r) ∈ kvs → (v', r) ∈ kvs → v = v' := by
  induction kvs with
  | nil => intro _ _ _ h; cases h
  | cons z kvs ih =>
    intro v v' r h h'
    rw [List.map_cons, List.nodup_cons] at nd
    rcases List.mem_cons.mp h with e | e
    · rcases List.mem_cons.mp h' with e' | e'
      · rw [← e] at e'
        cases e'
        rfl
      · exact (nd.1 (by rw [← e]; exact List.mem_map.mpr ⟨_, e', rfl⟩)).elim
    · rcases List.mem_cons.mp h' with e' | e'
      · exact (nd.1 (by rw [← e']; exact List.mem_map.mpr ⟨_, e, rfl⟩)).elim
      · exact ih nd.2 e e'
structure Groups (sz vals : List Int) (M : Mm) (pa pt : Addr) (k : Nat) (N : Mm) (kvs : List (Int × Addr)) : Prop where
  d : N pa = some (.dK (kvD kvs))
  t : N pt = some (.lst [])
  s : Sub M N
  n1 : (kvs.map (·.1)).Nodup
  n2 : (kvs.map (·.2)).Nodup
  c : ∀ v r, (v, r) ∈ kvs → r ≠ pa ∧ r ≠ pt ∧ M r = none ∧ N r = some (.lst ((grp sz vals v k).map tI))
  h : ∀ i, i < k → vals.getD i 0 ∈ kvs.map (·.1)
  l : kvs.length ≤ k
theorem Groups.old {sz vals : List Int} {M N : Mm} {pa pt q r : Addr} {k : Nat} {kvs : List (Int × Addr)} (G : Groups sz vals M pa pt k N kvs) (ha : pa ≠ pt) (na : M pa = none) (hq : N q = none) (hr : (vals.getD k 0, r) ∈ kvs) :
    Groups sz vals M pa pt (k + 1) ((N.upd q (.lst [])).upd r (.lst ((grp sz vals (vals.getD k 0) k ++ [digits sz (k : Int)]).map tI))) kvs := by
  obtain ⟨r1, r2, r3, r4⟩ := G.c _ _ hr
  have qa : q ≠ pa := fun e => by rw [e, G.d] at hq; cases hq
  have qt : q ≠ pt := fun e => by rw [e, G.t] at hq; cases hq
  refine ⟨?_, ?_, ?_, G.n1, G.n2, ?_, ?_, by have := G.l; omega⟩
  · rw [Mm.upd_ne (Ne.symm r1), Mm.upd_ne (Ne.symm qa)]
    exact G.d
  · rw [Mm.upd_ne (Ne.symm r2), Mm.upd_ne (Ne.symm qt)]
    exact G.t
  · exact Sub.put r3 (Sub.new hq G.s)
  · intro v' r' h'
    obtain ⟨g1, g2, g3, g4⟩ := G.c v' r' h'
    refine ⟨g1, g2, g3, ?_⟩
    by_cases e : r' = r
    · subst e
      have e2 : v' = vals.getD k 0 := snd_inj G.n2 h' hr
      rw [Mm.upd_same, e2, grp_succ, if_pos rfl]
    · have e2 : vals.getD k 0 ≠ v' := fun z => e (fst_inj G.n1 h' (z ▸ hr))
      have qr : q ≠ r' := fun z => by rw [z, g4] at hq; cases hq
      rw [Mm.upd_ne e, Mm.upd_ne (Ne.symm qr), g4, grp_succ, if_neg e2, List.append_nil]
  · intro i hi
    by_cases e : i = k
    · rw [e]
      exact List.mem_map.mpr ⟨_, hr, rfl⟩
    · exact G.h i (by omega)
theorem Groups.new {sz vals : List Int} {M N : Mm} {pa pt q : Addr} {k : Nat} {kvs : List (Int × Addr)} (G : Groups sz vals M pa pt k N kvs) (ha : pa ≠ pt) (na : M pa = none) (hq : N q = none) (hv : vals.getD k 0 ∉ kvs.map (·.1)) :
    Groups sz vals M pa pt (k + 1) (((N.upd q (.lst [])).upd pa (.dK (putD (kvD kvs) (Sum.inl (vals.getD k 0)) (.ptr q)))).upd q (.lst ([digits sz (k : Int)].map tI))) (kvs ++ [(vals.getD k 0, q)]) := by
  have qa : q ≠ pa := fun e => by rw [e, G.d] at hq; cases hq
  have qt : q ≠ pt := fun e => by rw [e, G.t] at hq; cases hq
  have qk : ∀ v r, (v, r) ∈ kvs → r ≠ q := fun v r h e => by
    have := (G.c v r h).2.2.2
    rw [e, hq] at this
    cases this
  have g0 : grp sz vals (vals.getD k 0) k = [] := by
    unfold grp
    rw [List.map_eq_nil_iff, List.filter_eq_nil_iff]
    intro i hi
    have hi' := List.mem_range.mp hi
    intro z
    have z' : vals.getD i 0 = vals.getD k 0 := by simpa using z
    exact hv (z' ▸ G.h i hi')
  refine ⟨?_, ?_, ?_, ?_, ?_, ?_, ?_, by rw [List.length_append]; have := G.l; simp only [List.length_singleton]; omega⟩
  · rw [Mm.upd_ne (Ne.symm qa), Mm.upd_same, putD_new (kvD_none hv).2]
    unfold kvD
    rw [List.map_append]
    rfl
  · rw [Mm.upd_ne (Ne.symm qt), Mm.upd_ne (Ne.symm ha), Mm.upd_ne (Ne.symm qt)]
    exact G.t
  · refine Sub.put (G.s.none hq) (Sub.put na (Sub.new hq G.s))
  · rw [List.map_append, List.nodup_append]
    refine ⟨G.n1, by simp, ?_⟩
    rintro a ha b hb rfl
    rw [List.mem_singleton.mp hb] at ha
    exact hv ha
  · rw [List.map_append, List.nodup_append]
    refine ⟨G.n2, by simp, ?_⟩
    rintro a ha b hb rfl
    obtain ⟨⟨v, r⟩, h, e⟩ := List.mem_map.mp ha
    have e' : r = a := e
    have e2 : a = q := List.mem_singleton.mp hb
    exact qk v r h (e'.trans e2)
  · intro v r h
    rcases List.mem_append.mp h with h | h
    · obtain ⟨g1, g2, g3, g4⟩ := G.c v r h
      have e2 : vals.getD k 0 ≠ v := fun z => hv (z ▸ List.mem_map.mpr ⟨_, h, rfl⟩)
      refine ⟨g1, g2, g3, ?_⟩
      rw [Mm.upd_ne (qk v r h), Mm.upd_ne g1, Mm.upd_ne (qk v r h), g4, grp_succ, if_neg e2, List.append_nil]
    · cases List.mem_singleton.mp h
      refine ⟨qa, qt, G.s.none hq, ?_⟩
      rw [Mm.upd_same, grp_succ, if_pos rfl, g0, List.nil_append]
  · intro i hi
    rw [List.map_append]
    by_cases e : i = k
    · rw [e]
      exact List.mem_append_right _ (by simp)
    · exact List.mem_append_left _ (G.h i (by omega))
def dueF (sz vals : List Int) (n k : Nat) (o : List Int) : List (List (List Int)) := (newsL sz (digits sz (k : Int)) o).flatMap fun w => [[o, w, digits sz (k : Int)], [w, o, digits sz (k : Int)]]
def duesL (sz vals : List Int) : List (List (List Int)) := (List.range vals.length).flatMap fun k => (grp sz vals (vals.getD k 0) vals.length).flatMap fun o => dueF sz vals vals.length k o
def p__law_tears : DSp := fun ds M Q => ∃ sz vals : List Int, ds = [tI sz, tI vals] ∧ SzOk sz ∧ (vals.length : Int) = sz.prod ∧ Q (.tup ((dedup (sortBy tT (duesL sz vals))).map tT)) M
theorem xApp_tI {o a : DE} {σ : DL.Env} {M : Mm} {Q : DK} {p : Addr} {ts : List (List Int)} {t : List Int} (ho : ∀ K : DK, K (.ptr p) M → o σ M K) (ha : ∀ K : DK, K (tI t) M → a σ M K) (hp : M p = some (.lst (ts.map tI))) (hl : ts.length < sizeLine) (q : Q .non (M.upd p (.lst ((ts ++ [t]).map tI)))) : xApp o a σ M Q := by
  refine ho _ ⟨⟨_, hp⟩, ha _ ⟨_, hp, by rw [List.length_map]; exact hl, ?_⟩⟩
  rw [List.map_append] at q
  exact q
theorem q__law_tears : ∀ ds M R, ds.length = 2 → p__law_tears ds M R → b__law_tears p__law_content p__law_news p__law_set (Ends R) (enter 9 ds) M := by
  rintro _ M R - ⟨sz, vals, rfl, ok, hv, q⟩
  show b__law_tears _ _ _ _ [some (tI sz), some (tI vals), none, none, none, none, none, none, none] M
  unfold b__law_tears
  law_fin
  unfold xDict xLstM
  law_fin
  intro pa npa
  refine ⟨Nat.zero_le _, fun pt npt => ?_⟩
  have ne : pa ≠ pt := by
    rintro rfl
    rw [Mm.upd_same] at npt
    cases npt
  have nt : M pt = none := by rwa [Mm.upd_ne (Ne.symm ne)] at npt
  have v128 : vals.length ≤ 128 := by have := ok.p; omega
  have szb : ∀ s ∈ sz, 1 ≤ s ∧ s < 1073741824 := fun s hs => by have := ok.b s hs; omega
  refine DL.for_range vals.length (by omega) (fun K k => by law_fin; exact k) (fun k σ N => ∃ kvs, Groups sz vals M pa pt k N kvs ∧ ∃ u v, σ = [some (tI sz), some (tI vals), some (.ptr pa), some (.ptr pt), u, v, none, none, none]) ?_ ?_ ?_
  · refine ⟨[], ⟨?_, Mm.upd_same, ?_, .nil, .nil, fun v r h => (by cases h), fun i h => absurd h (Nat.not_lt_zero _), Nat.zero_le _⟩, none, none, rfl⟩
    · rw [Mm.upd_ne ne, Mm.upd_same]
      rfl
    · exact Sub.new npt (Sub.new npa Sub.refl)
  · rintro k σ N hk ⟨kvs, G, u, v, rfl⟩
    law_fin
    unfold xSetD
    law_fin
    refine ⟨⟨pa, _, rfl, G.d⟩, ?_⟩
    rw [oIx_tI hk, ← getD_get hk]
    refine ⟨Nat.zero_le _, fun r nr => ⟨pa, kvD kvs, Sum.inl (vals.getD k 0), rfl, ?_, rfl, ?_, ?_⟩⟩
    · rw [Mm.upd_ne (fun e => by rw [← e, G.d] at nr; cases nr)]
      exact G.d
    · have e2 : sizeLine = 2 ^ 24 := rfl
      have := G.l
      unfold kvD
      rw [List.length_map]
      omega
    · by_cases hin : vals.getD k 0 ∈ kvs.map (·.1)
      · obtain ⟨r0, h0, e0⟩ := kvD_some hin
        rw [e0]
        obtain ⟨g1, g2, g3, g4⟩ := G.c _ _ h0
        have ne0 : r0 ≠ r := fun e => by rw [← e, g4] at nr; cases nr
        refine xApp_tI (t := digits sz (k : Int)) (fun K k => k) (fun K z => ?_) (by rw [Mm.upd_ne ne0]; exact g4) ?_ ?_
        · law_fin
          exact ⟨sz, _, rfl, szb, by have := ok.l6; omega, z⟩
        · have := grp_len sz vals (vals.getD k 0) k
          have e2 : sizeLine = 2 ^ 24 := rfl
          omega
        · exact ⟨kvs, G.old ne npa nr h0, _, _, rfl⟩
      · obtain ⟨e0, _⟩ := kvD_none hin
        rw [e0]
        have ner : r ≠ pa := fun e => by rw [e, G.d] at nr; cases nr
        refine xApp_tI (ts := []) (t := digits sz (k : Int)) (fun K k => k) (fun K z => ?_) (by rw [Mm.upd_ne ner, Mm.upd_same]; rfl) (by simp [sizeLine]) ?_
        · law_fin
          exact ⟨sz, _, rfl, szb, by have := ok.l6; omega, z⟩
        · exact ⟨_, G.new ne npa nr hin, _, _, rfl⟩
  · rintro σ N ⟨kvs, G, u, v, rfl⟩
    law_fin
    have lenW : ∀ k o, (newsL sz (digits sz k) o).length ≤ 128 := by
      intro k o
      unfold newsL
      split
      · exact Nat.zero_le _
      · refine Nat.le_trans (List.length_filter_le _ _) ?_
        have := rowsN_len (digits sz k) o ok.one sz.length (Nat.le_refl _)
        rw [List.take_length] at this
        have := ok.p
        omega
    have lenF : ∀ k o, (dueF sz vals vals.length k o).length ≤ 256 := by
      intro k o
      have := flatMap_len (fun w => [[o, w, digits sz (k : Int)], [w, o, digits sz (k : Int)]]) 2 (newsL sz (digits sz (k : Int)) o) fun _ _ => Nat.le_refl _
      have := lenW (k : Int) o
      show (List.flatMap _ _).length ≤ _
      omega
    have lenG : ∀ k v j, (((grp sz vals v vals.length).take j).flatMap fun o => dueF sz vals vals.length k o).length ≤ 32768 := by
      intro k v j
      have := flatMap_len (fun o => dueF sz vals vals.length k o) 256 ((grp sz vals v vals.length).take j) fun o _ => lenF k o
      have := grp_len sz vals v vals.length
      rw [List.length_take] at *
      omega
    have lenA : ∀ i, i ≤ vals.length → (((List.range vals.length).take i).flatMap fun k => (grp sz vals (vals.getD k 0) vals.length).flatMap fun o => dueF sz vals vals.length k o).length ≤ i * 32768 := by
      intro i hi
      have := flatMap_len (fun k => (grp sz vals (vals.getD k 0) vals.length).flatMap fun o => dueF sz vals vals.length k o) 32768 ((List.range vals.length).take i) fun k _ => by
        have := lenG k (vals.getD k 0) (grp sz vals (vals.getD k 0) vals.length).length
        rw [List.take_length] at this
        exact this
      rw [List.length_take, List.length_range] at this
      rw [Nat.min_eq_left hi] at this
      exact this
    refine DL.for_range vals.length (by omega) (fun K k => by law_fin; exact k) (fun k σ N' => N' = N.upd pt (.lst ((((List.range vals.length).take k).flatMap fun k => (grp sz vals (vals.getD k 0) vals.length).flatMap fun o => dueF sz vals vals.length k o).map tT)) ∧
      ∃ u v w x y, σ = [some (tI sz), some (tI vals), some (.ptr pa), some (.ptr pt), u, v, w, x, y]) ?_ ?_ ?_
    · refine ⟨?_, _, _, _, _, _, rfl⟩
      funext b
      by_cases e : b = pt
      · subst e
        rw [Mm.upd_same, G.t]
        rfl
      · rw [Mm.upd_ne e]
    · rintro k σ N' hk ⟨rfl, u, v, w, x, y, rfl⟩
      have la := lenA k (Nat.le_of_lt hk)
      rw [flat_succ (show (List.range vals.length)[k]? = some k by rw [List.getElem?_range hk])]
      generalize (((List.range vals.length).take k).flatMap fun k => (grp sz vals (vals.getD k 0) vals.length).flatMap fun o => dueF sz vals vals.length k o) = A at la ⊢
      law_fin
      refine ⟨sz, _, rfl, szb, by have := ok.l6; omega, ?_⟩
      obtain ⟨r, hr, er⟩ := kvD_some (G.h k hk)
      obtain ⟨g1, g2, g3, g4⟩ := G.c _ _ hr
      have rd : ∀ e, listD (.ptr r) (N.upd pt e) = some ((grp sz vals (vals.getD k 0) vals.length).map tI) := fun e => by
        unfold listD
        simp only [Mm.upd_ne g2, g4]
      refine for_listD (.ptr r) ((grp sz vals (vals.getD k 0) vals.length).map tI) (fun K z => ?_) (rd _) (fun j σ N' => N' = N.upd pt (.lst ((A ++ ((grp sz vals (vals.getD k 0) vals.length).take j).flatMap fun o => dueF sz vals vals.length k o).map tT)) ∧
        ∃ v w y, σ = [some (tI sz), some (tI vals), some (.ptr pa), some (.ptr pt), some (.int k), v, some (tI (digits sz (k : Int))), w, y]) ?_ ?_ ?_ ?_
      · refine xGet_K (p := pa) (fun K k => k) (fun K z => ?_) (by rw [Mm.upd_ne ne]; exact G.d) er z
        law_fin
        rw [oIx_tI hk, ← getD_get hk]
        exact z
      · exact ⟨by simp, _, _, _, rfl⟩
      · rintro i σ N' ⟨rfl, _⟩
        exact rd _
      · rintro j y' σ N' hy ⟨rfl, v', w', y'', rfl⟩
        rw [List.getElem?_map] at hy
        obtain ⟨o, ho, rfl⟩ := Option.map_eq_some_iff.mp hy
        have lb := lenG k (vals.getD k 0) j
        rw [flat_succ ho]
        generalize (((grp sz vals (vals.getD k 0) vals.length).take j).flatMap fun o => dueF sz vals vals.length k o) = B at lb ⊢
        have ol : o.length = sz.length := by
          obtain ⟨i, _, rfl⟩ := List.mem_map.mp (List.mem_of_getElem? ho)
          exact digits_len _ _
        law_fin
        refine for_listD (.lst ((newsL sz (digits sz (k : Int)) o).map tI)) ((newsL sz (digits sz (k : Int)) o).map tI) (fun K z => ?_) rfl (fun l σ N' => N' = N.upd pt (.lst ((A ++ (B ++ ((newsL sz (digits sz (k : Int)) o).take l).flatMap fun w => [[o, w, digits sz (k : Int)], [w, o, digits sz (k : Int)]])).map tT)) ∧
          ∃ y, σ = [some (tI sz), some (tI vals), some (.ptr pa), some (.ptr pt), some (.int k), v', some (tI (digits sz (k : Int))), some (tI o), y]) ?_ ?_ ?_ ?_
        · exact ⟨sz, _, o, rfl, digits_len _ _, ol, by have := ok.l6; omega, ok.one, by have := ok.p; omega, z⟩
        · exact ⟨by simp, _, rfl⟩
        · rintro i σ N' _
          rfl
        · rintro l z σ N' hz ⟨rfl, y3, rfl⟩
          rw [List.getElem?_map] at hz
          obtain ⟨wn, hw, rfl⟩ := Option.map_eq_some_iff.mp hz
          rw [flat_succ hw]
          have ll := flatMap_len (fun w => [[o, w, digits sz (k : Int)], [w, o, digits sz (k : Int)]]) 2 ((newsL sz (digits sz (k : Int)) o).take l) fun _ _ => Nat.le_refl _
          have lw := lenW (k : Int) o
          rw [List.length_take] at ll
          have ll' : (((newsL sz (digits sz (k : Int)) o).take l).flatMap fun w => [[o, w, digits sz (k : Int)], [w, o, digits sz (k : Int)]]).length ≤ 256 := by omega
          generalize (((newsL sz (digits sz (k : Int)) o).take l).flatMap fun w => [[o, w, digits sz (k : Int)], [w, o, digits sz (k : Int)]]) = C at ll' ⊢
          have room : (A ++ (B ++ C)).length + 1 < sizeLine := by
            have e2 : sizeLine = 2 ^ 24 := rfl
            rw [List.length_append, List.length_append]
            omega
          law_fin
          refine xApp_tT (ts := A ++ (B ++ C)) (t := [o, wn, digits sz (k : Int)]) (fun K k => k) (fun K k => ?_) Mm.upd_same (by omega) ?_
          · law_fin
            exact ⟨by simp [sizeLine], k⟩
          refine xApp_tT (ts := A ++ (B ++ C) ++ [[o, wn, digits sz (k : Int)]]) (t := [wn, o, digits sz (k : Int)]) (fun K k => k) (fun K k => ?_) Mm.upd_same (by rw [List.length_append]; exact room) ?_
          · law_fin
            exact ⟨by simp [sizeLine], k⟩
          refine ⟨?_, _, rfl⟩
          rw [Mm.upd_upd, Mm.upd_upd]
          simp only [List.append_assoc, List.cons_append, List.nil_append]
        · rintro σ N' ⟨rfl, y3, rfl⟩
          rw [List.length_map, List.take_length]
          exact ⟨rfl, _, _, _, rfl⟩
      · rintro σ N' ⟨rfl, v', w', y', rfl⟩
        rw [List.length_map, List.take_length]
        exact ⟨rfl, _, _, _, _, _, rfl⟩
    · rintro σ N' ⟨rfl, u, v, w, x, y, rfl⟩
      have la := lenA vals.length (Nat.le_refl _)
      have full : (List.range vals.length).take vals.length = List.range vals.length := by
        conv => lhs; rw [← List.length_range (n := vals.length), List.length_range]
        exact List.take_of_length_le (by rw [List.length_range]; exact Nat.le_refl _)
      rw [full] at la ⊢
      law_fin
      refine ⟨pt, duesL sz vals, rfl, Mm.upd_same, ?_, ?_, gone_same ?_ q⟩
      · intro t ht
        obtain ⟨k, _, h1⟩ := List.mem_flatMap.mp ht
        obtain ⟨o, _, h2⟩ := List.mem_flatMap.mp h1
        obtain ⟨w, _, h3⟩ := List.mem_flatMap.mp h2
        rcases List.mem_cons.mp h3 with rfl | h3
        · exact fun z => nomatch z
        · rw [List.mem_singleton.mp h3]
          exact fun z => nomatch z
      · have e2 : sizeLine = 2 ^ 24 := rfl
        show (List.flatMap _ _).length ≤ _
        omega
      · exact Sub.put nt G.s
end K68

set_option Elab.async false
set_option linter.all false
set_option maxRecDepth 100000
set_option maxHeartbeats 4000000
namespace K68
open PySem PySem.Spec L2 DL

local macro_rules | `(tactic| law_fin) => `(tactic| try simp only [zSeq, zSet, zIf, zRet, zSkip, zPar, zPar3, zExpr, zAsg, zNo, zBreak, zCont, xOp, xV, xC, xTst, xAnd, xOr, xNot, xIf, xChain, xB, xCall, c1, c2, o2, aCons, aNil, xTup, xLst, slot, put, oSub, oMul, oFdiv, oMod, oPow, oLe, oGt, oGe, xYes, yN, yTup, yCons, yNil, wipeD, List.set_cons_succ, List.set_cons_zero, kInt, kAbs, kMax2, kMin2, xNeg,
  kLen_tup, List.length_map, if_true, if_false, Bool.false_eq_true, kLen_lst, oEq_int, oNe_int, oEq_tI, oNe_tI, oAdd_int, oAdd_tup])

/-! ### the pool -/
structure Pool (t : Int) (c : Option Cell) : Prop where
  ex : ∃ (cells : List Int) (i : Nat) (rest s : Int), c = some (.lst [.lst (cells.map D.int), .int i, .int rest, .int t, .int s]) ∧ 0 ≤ rest ∧ 0 ≤ s ∧ s < 1000003
theorem oIx_at {p : Addr} {xs : List D} {i : Int} {x : D} {M : Mm} {Q : DK} (hp : M p = some (.lst xs)) (h : atI xs i = some x) (q : Q x M) : oIx (.ptr p) (.int i) M Q :=
  ⟨xs, x, by unfold seqD; simp [hp], h, q⟩
theorem ySub_at {o i : DE} {d : D} {σ : DL.Env} {M : Mm} {N : DL.Env → Mm → Prop} {p : Addr} {n : Int} {ds : List D} {j : Nat} (ho : ∀ K : DK, K (.ptr p) M → o σ M K) (hi : ∀ K : DK, K (.int n) M → i σ M K) (hp : M p = some (.lst ds)) (hj : ixN ds.length n = some j) (q : N σ (M.upd p (.lst (ds.set j d)))) : ySub o i d σ M N :=
  ho _ (hi _ ⟨ds, j, hp, hj, q⟩)
theorem oLtX_int {i j : Int} {M : Mm} {Q : DK} : oLtX (.int i) (.int j) M Q = Q (.bl (decide (i < j))) M := rfl
theorem mul_lt_big {a b : Int} (h0 : 0 ≤ a) (h1 : a < b) : a < 2 ^ 64 ∨ ¬ b ≤ 2 ^ 64 := by omega
def p__law_take : DSp := fun ds M Q => ∃ (p : Addr) (m t : Int), ds = [.ptr p, .int m] ∧ Pool t (M p) ∧ 0 ≤ t ∧ t < 2 ^ 40 ∧ 1 ≤ m ∧ m < 1073741824 ∧ ∀ r c, 0 ≤ r → r < m → Pool (t + 1) (some c) → Q (.int r) (M.upd p c)
theorem gone_put {M : Mm} {R : DK} {p : Addr} {c : Cell} {r : Int} (q : R (.int r) (M.upd p c)) : ∃ e M2, Gone (M.upd p c) M2 (.int r) e ∧ R e M2 := ⟨_, _, .same Sub.refl, q⟩
theorem q__law_take : ∀ ds M R, ds.length = 2 → p__law_take ds M R → b__law_take (Ends R) (enter 5 ds) M := by
  rintro _ M R - ⟨p, m, t, rfl, ⟨cells, i, rest, s, hp, hr, hs, hs2⟩, ht, ht2, hm, hm2, q⟩
  show b__law_take _ [some (.ptr p), some (.int m), none, none, none] M
  unfold b__law_take
  law_fin
  refine oIx_at hp (x := .int t) rfl ?_
  rw [oAdd_int]
  refine ySub_at (p := p) (n := 3) (j := 3) (fun K k => k) (fun K k => k) hp rfl ?_
  generalize hM1 : M.upd p (.lst (List.set [.lst (cells.map D.int), .int i, .int rest, .int t, .int s] 3 (.int (t + 1)))) = M1
  have h1 : M1 p = some (.lst [.lst (cells.map D.int), .int i, .int rest, .int (t + 1), .int s]) := by rw [← hM1, Mm.upd_same]; rfl
  have up : ∀ c, M1.upd p c = M.upd p c := fun c => by rw [← hM1, Mm.upd_upd]
  law_fin
  refine oIx_at h1 (x := .int rest) rfl ?_
  by_cases hb : m ≤ rest
  · simp only [decide_eq_true hb, if_true]
    refine oIx_at h1 (x := .int rest) rfl ?_
    refine ⟨⟨by omega, hm2⟩, ?_⟩
    refine ySub_at (p := p) (n := 2) (j := 2) (fun K k => k) (fun K k => k) h1 rfl ?_
    refine ⟨by omega, ?_⟩
    rw [up]
    refine gone_put (q _ _ (Int.emod_nonneg _ (by omega)) (Int.emod_lt_of_pos _ (by omega)) ⟨cells, i, rest / m, s, rfl, Int.ediv_nonneg hr (by omega), hs, hs2⟩)
  simp only [decide_eq_false hb, Bool.false_eq_true, if_false]
  refine ySub_at (p := p) (n := 2) (j := 2) (fun K k => k) (fun K k => k) h1 rfl ?_
  generalize hM2 : M1.upd p (.lst (List.set [.lst (cells.map D.int), .int i, .int rest, .int (t + 1), .int s] 2 (.int 0))) = M2
  have h2 : M2 p = some (.lst [.lst (cells.map D.int), .int i, .int 0, .int (t + 1), .int s]) := by rw [← hM2, Mm.upd_same]; rfl
  have up2 : ∀ c, M2.upd p c = M.upd p c := fun c => by rw [← hM2, Mm.upd_upd, up]
  have self2 : M.upd p (.lst [.lst (cells.map D.int), .int i, .int 0, .int (t + 1), .int s]) = M2 := by rw [← hM2, up]; rfl
  law_fin
  refine oIx_at h2 (x := .int (t + 1)) rfl ?_
  refine oIx_at h2 (x := .int i) rfl ?_
  refine oIx_at h2 (x := .lst (cells.map D.int)) rfl ?_
  simp only [kLen_lst, List.length_map, oLtX_int]
  -- the end of the way
  have fin : ∀ (number i' : Nat) (M3 : Mm), (number : Int) < 2147483647 → M3 = M.upd p (.lst [.lst (cells.map D.int), .int i', .int 0, .int (t + 1), .int s]) →
      (CMul (number : Int) (number : Int) ∧ CMul (t + 1) 40692 ∧ (0 : Int) < 2147483399 ∧ CDiv (((number : Int) * number + (t + 1) * 40692) % 2147483399) 7 ∧ 0 < m ∧ ∃ e M2, Gone M3 M2 (.int ((((number : Int) * number + (t + 1) * 40692) % 2147483399 / 7) % m)) e ∧ R e M2) := by
    intro number i' M3 hn e3
    subst e3
    refine ⟨Or.inl (by omega), Or.inr (by omega), by omega, ⟨by omega, by omega⟩, by omega, ?_⟩
    exact gone_put (q _ _ (Int.emod_nonneg _ (by omega)) (Int.emod_lt_of_pos _ (by omega)) ⟨cells, i', 0, s, rfl, by omega, hs, hs2⟩)
  by_cases hi : i < cells.length
  · simp only [decide_eq_true (show (i : Int) < (cells.length : Int) by omega), if_true]
    refine oIx_at h2 (x := .lst (cells.map D.int)) rfl ?_
    refine oIx_at h2 (x := .int i) rfl ?_
    refine oIx_lst (x := .int cells[i]) (by rw [List.getElem?_map, List.getElem?_eq_getElem hi]; rfl) ?_
    refine oIx_at h2 (x := .int i) rfl ?_
    law_fin
    refine ySub_at (p := p) (n := 1) (j := 1) (fun K k => k) (fun K k => k) h2 rfl ?_
    generalize hM3 : M2.upd p (.lst (List.set [.lst (cells.map D.int), .int i, .int 0, .int (t + 1), .int s] 1 (.int ((i : Int) + 1)))) = M3
    have h3 : M3 p = some (.lst [.lst (cells.map D.int), .int ((i + 1 : Nat) : Int), .int 0, .int (t + 1), .int s]) := by rw [← hM3, Mm.upd_same]; rfl
    have up3 : ∀ c, M3.upd p c = M.upd p c := fun c => by rw [← hM3, Mm.upd_upd, up2]
    have self3 : M3 = M.upd p (.lst [.lst (cells.map D.int), .int ((i + 1 : Nat) : Int), .int 0, .int (t + 1), .int s]) := by rw [← hM3, up2]; rfl
    law_fin
    refine ⟨⟨by decide, by decide, by decide⟩, ?_⟩
    generalize cells[i] = cell
    have e18 : (10 : Int) ^ (18 : Int).toNat = 1000000000000000000 := by decide
    rw [e18]
    by_cases hc : (1000000000000000000 : Int) ≤ (cell.natAbs : Int)
    · simp only [decide_eq_true hc, if_true]
      refine ⟨⟨by omega, hm2⟩, ?_⟩
      refine ySub_at (p := p) (n := 2) (j := 2) (fun K k => k) (fun K k => k) h3 rfl ?_
      law_fin
      refine ⟨by omega, ?_⟩
      rw [up3]
      exact gone_put (q _ _ (Int.emod_nonneg _ (by omega)) (Int.emod_lt_of_pos _ (by omega)) ⟨cells, i + 1, (cell.natAbs : Int) / m, s, rfl, Int.ediv_nonneg (by omega) (by omega), hs, hs2⟩)
    · simp only [decide_eq_false hc, Bool.false_eq_true, if_false]
      refine ⟨Or.inr (by omega), Or.inr (by omega), by omega, ?_⟩
      have n0 := Int.emod_nonneg (cell * 48271 + (t + 1) * 69621 + 11) (show (2147483647 : Int) ≠ 0 by omega)
      have n1 := Int.emod_lt_of_pos (cell * 48271 + (t + 1) * 69621 + 11) (show (0 : Int) < 2147483647 by omega)
      generalize (cell * 48271 + (t + 1) * 69621 + 11) % 2147483647 = number at n0 n1
      obtain ⟨n, rfl⟩ : ∃ n : Nat, number = (n : Int) := ⟨number.toNat, by omega⟩
      exact fin n (i + 1) M3 n1 self3
  · simp only [decide_eq_false (show ¬ (i : Int) < (cells.length : Int) by omega), Bool.false_eq_true, if_false]
    refine oIx_at h2 (x := .int s) rfl ?_
    refine ⟨Or.inr (by omega), Or.inl (by omega), Or.inr (by omega), Or.inr (by omega), by omega, ?_⟩
    have n0 := Int.emod_nonneg (s * 16807 + (t + 1) * (t + 1) * 69621 + (t + 1) * 48271 + 13) (show (2147483629 : Int) ≠ 0 by omega)
    have n1 := Int.emod_lt_of_pos (s * 16807 + (t + 1) * (t + 1) * 69621 + (t + 1) * 48271 + 13) (show (0 : Int) < 2147483629 by omega)
    generalize (s * 16807 + (t + 1) * (t + 1) * 69621 + (t + 1) * 48271 + 13) % 2147483629 = number at n0 n1
    obtain ⟨n, rfl⟩ : ∃ n : Nat, number = (n : Int) := ⟨number.toNat, by omega⟩
    exact fin n i M2 (by omega) self2.symm
end K68

set_option Elab.async false
set_option linter.all false
set_option maxRecDepth 100000
set_option maxHeartbeats 4000000
namespace K68
open PySem PySem.Spec L2 DL

local macro_rules | `(tactic| law_fin) => `(tactic| try simp only [zSeq, zSet, zIf, zRet, zSkip, zPar, zPar3, zExpr, zAsg, zNo, zBreak, zCont, xOp, xV, xC, xTst, xAnd, xOr, xNot, xIf, xChain, xB, xCall, c1, c2, o2, aCons, aNil, xTup, xLst, slot, put, oSub, oMul, oFdiv, oMod, oPow, oLe, oGt, oGe, xYes, yN, yTup, yCons, yNil, wipeD, List.set_cons_succ, List.set_cons_zero, kInt, kAbs, kMax2, kMin2, xNeg,
  kLen_tup, List.length_map, if_true, if_false, Bool.false_eq_true, kLen_lst, oEq_int, oNe_int, oEq_tI, oNe_tI, oAdd_int, oAdd_tup])

/-- the memory while the pool is drawn from -/
def PS (p : Addr) (t : Int) (M M' : Mm) : Prop := ∃ c, Pool t (some c) ∧ Sub (M.upd p c) M'
section
variable {p : Addr} {t : Int} {M M' : Mm}
theorem upd_id {c : Cell} (h : M p = some c) : M.upd p c = M := by
  funext b
  by_cases e : b = p
  · rw [e, Mm.upd_same, h]
  · rw [Mm.upd_ne e]
theorem PS.start (h : Pool t (M p)) : PS p t M M := by
  cases e : M p with
  | none =>
    rw [e] at h
    obtain ⟨_, _, _, _, z, _⟩ := h
    cases z
  | some c =>
    rw [e] at h
    exact ⟨c, h, by rw [upd_id e]; exact Sub.refl⟩
theorem PS.pool (h : PS p t M M') : Pool t (M' p) := by
  obtain ⟨c, h1, h2⟩ := h
  rw [h2 p c Mm.upd_same]
  exact h1
theorem PS.there (h : PS p t M M') : M' p ≠ none := by
  obtain ⟨c, h1, h2⟩ := h
  rw [h2 p c Mm.upd_same]
  exact fun z => nomatch z
theorem PS.upd (h : PS p t M M') {c : Cell} {t' : Int} (hc : Pool t' (some c)) : PS p t' M (M'.upd p c) := by
  obtain ⟨c0, h1, h2⟩ := h
  refine ⟨c, hc, fun a e z => ?_⟩
  by_cases ea : a = p
  · subst ea
    rw [Mm.upd_same] at z ⊢
    exact z
  · rw [Mm.upd_ne ea] at z ⊢
    exact h2 a e (by rw [Mm.upd_ne ea]; exact z)
theorem PS.fresh (h : PS p t M M') {r : Addr} (n : M' r = none) : M r = none ∧ r ≠ p := by
  obtain ⟨c, h1, h2⟩ := h
  have hne : r ≠ p := fun e => by
    rw [e, h2 p c Mm.upd_same] at n
    cases n
  refine ⟨?_, hne⟩
  have := h2.none n
  rwa [Mm.upd_ne hne] at this
theorem PS.put (h : PS p t M M') {r : Addr} {c : Cell} (n : M r = none) (hne : r ≠ p) : PS p t M (M'.upd r c) := by
  obtain ⟨c0, h1, h2⟩ := h
  exact ⟨c0, h1, Sub.put (by rw [Mm.upd_ne hne]; exact n) h2⟩
theorem PS.done (h : PS p t M M') {R : DK} {d : D} (q : ∀ c, Pool t (some c) → R d (M.upd p c)) : ∃ e M2, Gone M' M2 d e ∧ R e M2 := by
  obtain ⟨c0, h1, h2⟩ := h
  exact ⟨_, _, .same h2, q c0 h1⟩
theorem PS.take (h : PS p t M M') {m : Int} {Q : DK} (h0 : 0 ≤ t) (h1 : t < 2 ^ 40) (m1 : 1 ≤ m) (m2 : m < 1073741824) (q : ∀ r M'', 0 ≤ r → r < m → PS p (t + 1) M M'' → (∀ a, a ≠ p → M'' a = M' a) → Q (.int r) M'') : p__law_take [.ptr p, .int m] M' Q :=
  ⟨p, m, t, rfl, h.pool, h0, h1, m1, m2, fun r c r0 r1 hc => q r _ r0 r1 (h.upd hc) fun a ha => Mm.upd_ne ha⟩
end
/-! ### _law_pool -/
def p__law_pool : DSp := fun ds M Q => ∃ ns : List Int, ds = [.fz (ns.map D.int)] ∧ ∀ p c, M p = none → Pool 1 (some c) → Q (.ptr p) (M.upd p c)
theorem cutD_map {α β : Type} (f : α → β) (xs : List α) (lo hi : Option Int) : cutD (xs.map f) lo hi = (cutD xs lo hi).map f := by
  unfold cutD
  rw [List.length_map, ← List.map_drop, ← List.map_take]
theorem cut63 (ns : List Int) : (cutD ns none (some 63)).length ≤ 63 := by
  unfold cutD
  rw [List.length_take]
  have e : HT.sIx ns.length ns.length (some 63) = min 63 ns.length := HT.sIx_nat ns.length ns.length 63
  rw [e]
  omega
theorem q__law_pool : ∀ ds M R, ds.length = 1 → p__law_pool ds M R → b__law_pool (Ends R) (enter 3 ds) M := by
  rintro _ M R - ⟨ns, rfl, q⟩
  show b__law_pool _ [some (.fz (ns.map D.int)), none, none] M
  unfold b__law_pool
  law_fin
  have c63 := cut63 ns
  have e2 : sizeLine = 2 ^ 24 := rfl
  refine lc_pure ((cutD ns none (some 63)).map D.int) (fun x => some x) (fun K k => ?_) ?_ ?_ ?_
  · unfold iSeq xSl oNone oPart
    law_fin
    exact ⟨_, rfl, by rw [cutD_map]; exact k⟩
  · rw [List.length_map]
    omega
  · intro x N hx s K1 K0 k1 k0
    obtain ⟨n, _, rfl⟩ := List.mem_map.mp hx
    law_fin
    exact k1 _ rfl
  rw [fm_some, List.map_id']
  generalize cutD ns none (some 63) = cells at c63
  unfold xLstM
  law_fin
  refine lc_pure (cells.map D.int) (fun x => match x with | .int i => some (.int ((i.natAbs : Int) % 1000003)) | _ => none) (fun K k => k) (by rw [List.length_map]; omega) ?_ ?_
  · intro x N hx s K1 K0 k1 k0
    obtain ⟨n, _, rfl⟩ := List.mem_map.mp hx
    law_fin
    exact ⟨by omega, k1 _ rfl⟩
  have e : (cells.map D.int).filterMap (fun x => match x with | .int i => some (.int ((i.natAbs : Int) % 1000003)) | _ => none) = (cells.map fun i => (i.natAbs : Int) % 1000003).map D.int := by
    rw [List.filterMap_map, List.map_map]
    exact fm_some
  rw [e]
  refine ⟨_, rfl, by omega, by simp [sizeLine], fun p np => gone_same Sub.refl (q p _ np ⟨cells, 0, 0, _, rfl, by omega, Int.emod_nonneg _ (by omega), Int.emod_lt_of_pos _ (by omega)⟩)⟩
/-! ### _law_pair -/
def p__law_pair : DSp := fun ds M Q => ∃ (p : Addr) (t : Int), ds = [.ptr p] ∧ Pool t (M p) ∧ 0 ≤ t ∧ t < 2 ^ 30 ∧
  ∀ o n c t', o.length = n.length → 1 ≤ o.length → o.length ≤ 8 → t ≤ t' → t' ≤ t + 1000 → Pool t' (some c) → Q (.lst [tI o, tI n]) (M.upd p c)
theorem q__law_pair : ∀ ds M R, ds.length = 1 → p__law_pair ds M R → b__law_pair p__law_take (Ends R) (enter 9 ds) M := by
  rintro _ M R - ⟨p, t, rfl, hp, ht, ht2, q⟩
  show b__law_pair _ _ [some (.ptr p), none, none, none, none, none, none, none, none] M
  unfold b__law_pair
  law_fin
  have s0 := PS.start hp
  refine s0.take ht (by omega) (by omega) (by omega) fun way M1 w0 w5 s1 _ => ?_
  refine s1.take (by omega) (by omega) (by omega) (by omega) fun r M2 r0 r8 s2 _ => ?_
  law_fin
  refine s2.take (by omega) (by omega) (by omega) (by omega) fun spot M3 sp0 sp1 s3 _ => ?_
  law_fin
  unfold xLstM
  law_fin
  refine ⟨Nat.zero_le _, fun po npo => ⟨Nat.zero_le _, fun pn npn => ?_⟩⟩
  obtain ⟨fo1, fo2⟩ := s3.fresh npo
  have neq : po ≠ pn := fun e => by
    rw [e, Mm.upd_same] at npn
    cases npn
  have s4 := s3.put (c := .lst []) fo1 fo2
  obtain ⟨fn1, fn2⟩ := s4.fresh npn
  have s5 := s4.put (c := .lst []) fn1 fn2
  obtain ⟨m, hm⟩ : ∃ m : Nat, 1 + r = (m : Int) := ⟨(1 + r).toNat, by omega⟩
  rw [hm]
  refine DL.for_range m (by omega) (fun K k => by law_fin; exact k) (fun k σ N => ∃ (o n : List Int) (t' : Int), o.length = k ∧ n.length = k ∧ t ≤ t' ∧ t' ≤ t + 3 + 5 * k ∧ PS p t' M N ∧ N po = some (.lst (o.map D.int)) ∧ N pn = some (.lst (n.map D.int)) ∧
    ∃ u v w, σ = [some (.ptr p), some (.int way), some (.int m), some (.int spot), some (.ptr po), some (.ptr pn), u, v, w]) ?_ ?_ ?_
  · exact ⟨[], [], _, rfl, rfl, by omega, by omega, s5, by rw [Mm.upd_ne neq, Mm.upd_same]; rfl, Mm.upd_same, _, _, _, rfl⟩
  · rintro k σ N hk ⟨o, n, t', ho, hn, t1, t2, sN, eo, en, u, v, w, rfl⟩
    law_fin
    refine sN.take (by omega) (by omega) (by omega) (by omega) fun v1 N1 _ _ sN1 k1 => ?_
    law_fin
    -- the turn's end
    have fin : ∀ (a b : Int) (N' : Mm) (t'' : Int), PS p t'' M N' → (∀ x, x ≠ p → N' x = N x) → t ≤ t'' → t'' ≤ t' + 5 →
        zSeq (zExpr (xApp (xV 4) (xV 7))) (zExpr (xApp (xV 5) (xV 8))) { nx := fun σ N => ∃ (o n : List Int) (t' : Int), o.length = k + 1 ∧ n.length = k + 1 ∧ t ≤ t' ∧ t' ≤ t + 3 + 5 * ((k + 1 : Nat) : Int) ∧ PS p t' M N ∧ N po = some (.lst (o.map D.int)) ∧ N pn = some (.lst (n.map D.int)) ∧
          ∃ u v w, σ = [some (.ptr p), some (.int way), some (.int m), some (.int spot), some (.ptr po), some (.ptr pn), u, v, w], rt := fun d M' => ∃ e M2, Gone M' M2 d e ∧ R e M2 } [some (.ptr p), some (.int way), some (.int m), some (.int spot), some (.ptr po), some (.ptr pn), some (.int k), some (.int a), some (.int b)] N' := by
      intro a b N' t'' sN' kN' h1 h2
      have eo' : N' po = some (.lst (o.map D.int)) := by rw [kN' po fo2]; exact eo
      have en' : N' pn = some (.lst (n.map D.int)) := by rw [kN' pn fn2]; exact en
      have e2 : sizeLine = 2 ^ 24 := rfl
      unfold xApp
      law_fin
      refine ⟨⟨_, eo'⟩, _, eo', by rw [List.length_map]; omega, ⟨_, by rw [Mm.upd_ne (Ne.symm neq)]; exact en'⟩, _, by rw [Mm.upd_ne (Ne.symm neq)]; exact en', by rw [List.length_map]; omega, ?_⟩
      refine ⟨o ++ [a], n ++ [b], t'', by simp [ho], by simp [hn], h1, by omega, (sN'.put fo1 fo2).put fn1 fn2, ?_, ?_, _, _, _, rfl⟩
      · rw [Mm.upd_ne neq, Mm.upd_same, List.map_append]
        rfl
      · rw [Mm.upd_same, List.map_append]
        rfl
    repeat' split
    all_goals first
      | exact fin _ _ N1 _ sN1 (fun x hx => k1 x hx) (by omega) (by omega)
      | (refine sN1.take (by omega) (by omega) (by omega) (by omega) fun v2 N2 _ _ sN2 k2 => ?_
         first
          | exact ⟨by omega, fin _ _ N2 _ sN2 (fun x hx => by rw [k2 x hx, k1 x hx]) (by omega) (by omega)⟩
          | exact fin _ _ N2 _ sN2 (fun x hx => by rw [k2 x hx, k1 x hx]) (by omega) (by omega)
          | (refine sN2.take (by omega) (by omega) (by omega) (by omega) fun v3 N3 _ _ sN3 k3 => ?_
             exact fin _ _ N3 _ sN3 (fun x hx => by rw [k3 x hx, k2 x hx, k1 x hx]) (by omega) (by omega)))
  · rintro σ N ⟨o, n, t', ho, hn, t1, t2, sN, eo, en, u, v, w, rfl⟩
    law_fin
    refine ⟨o.map D.int, by unfold seqD; simp [eo], n.map D.int, by unfold seqD; simp [en], by simp [sizeLine], ?_⟩
    exact sN.done fun c hc => q o n c t' (by omega) (by omega) (by omega) (by omega) (by omega) hc
end K68

set_option Elab.async false
set_option linter.all false
set_option maxRecDepth 100000
set_option maxHeartbeats 4000000
namespace K68
open PySem PySem.Spec L2 DL

local macro_rules | `(tactic| law_fin) => `(tactic| try simp only [zSeq, zSet, zIf, zRet, zSkip, zPar, zPar3, zExpr, zAsg, zNo, zBreak, zCont, xOp, xV, xC, xTst, xAnd, xOr, xNot, xIf, xChain, xB, xCall, c1, c2, o2, aCons, aNil, xTup, xLst, slot, put, oSub, oMul, oFdiv, oMod, oPow, oLe, oGt, oGe, xYes, yN, yTup, yCons, yNil, wipeD, List.set_cons_succ, List.set_cons_zero, kInt, kAbs, kMax2, kMin2, xNeg,
  kLen_tup, List.length_map, if_true, if_false, Bool.false_eq_true, kLen_lst, oEq_int, oNe_int, oEq_tI, oNe_tI, oAdd_int, oAdd_tup])

/-! ### _law_sizes -/
theorem zMin2 {i j : Int} {M : Mm} {Q : DK} : kMin2 (.int i) (.int j) M Q = Q (.int (min i j)) M := rfl
def p__law_sizes : DSp := fun ds M Q => ∃ (p : Addr) (t most : Int), ds = [.ptr p, .int most] ∧ Pool t (M p) ∧ 0 ≤ t ∧ t < 2 ^ 30 ∧ 2 ≤ most ∧ most ≤ 128 ∧
  ∀ sz c t', SzOk sz → sz.prod ≤ most → t ≤ t' → t' ≤ t + 1000 → Pool t' (some c) → Q (tI sz) (M.upd p c)
theorem q__law_sizes : ∀ ds M R, ds.length = 2 → p__law_sizes ds M R → b__law_sizes p__law_take (Ends R) (enter 7 ds) M := by
  rintro _ M R - ⟨p, t, most, rfl, hp, ht, ht2, hm, hm2, q⟩
  show b__law_sizes _ _ [some (.ptr p), some (.int most), none, none, none, none, none] M
  unfold b__law_sizes
  law_fin
  have s0 := PS.start hp
  refine s0.take ht (by omega) (by omega) (by omega) fun w1 M1 _ _ s1 _ => ?_
  -- behind the two numbers
  have rest : ∀ (wide : Int) (m : Nat) (M2 : Mm) (t2 : Int), (wide = 8 ∨ wide = 2) → 1 ≤ m → m ≤ 6 → PS p t2 M M2 → t ≤ t2 → t2 ≤ t + 10 →
      zSeq (zPar 4 5 (aCons (xLstM aNil) (aCons (xV 1) aNil))) (zSeq (zFor (iRange1 (aCons (xV 3) aNil)) (yN 6) (zIf (xTst (xOp oGe (xV 5) (xC (.int 2)))) (zSeq (zExpr (xApp (xV 4) (xOp oAdd (xC (.int 2)) (xCall p__law_take (aCons (xV 0) (aCons (xB (c2 kMin2) (aCons (xV 2) (aCons (xOp oSub (xV 5) (xC (.int 1))) aNil))) aNil)))))) (zSet 5 (xOp oFdiv (xV 5) (xOp oIx (xV 4) (xNeg (xC (.int 1))))))) zSkip)) (zRet (xB (c1 kTuple) (aCons (xV 4) aNil)))) (Ends R) [some (.ptr p), some (.int most), some (.int wide), some (.int m), none, none, none] M2 := by
    intro wide m M2 t2 hw m1 m6 s2 t21 t22
    law_fin
    unfold xLstM
    law_fin
    refine ⟨Nat.zero_le _, fun pz npz => ?_⟩
    obtain ⟨f1, f2⟩ := s2.fresh npz
    have s3 := s2.put (c := .lst []) f1 f2
    refine DL.for_range m (by omega) (fun K k => by law_fin; exact k) (fun k σ N => ∃ (sz : List Int) (room t' : Int), (∀ s ∈ sz, 2 ≤ s ∧ s ≤ 9) ∧ sz.length ≤ k ∧ (1 ≤ k → 1 ≤ sz.length) ∧ 1 ≤ room ∧ (k = 0 → room = most) ∧ sz.prod * room ≤ most ∧ room ≤ 128 ∧ t ≤ t' ∧ t' ≤ t + 10 + k ∧ PS p t' M N ∧ N pz = some (.lst (sz.map D.int)) ∧
      ∃ u, σ = [some (.ptr p), some (.int most), some (.int wide), some (.int m), some (.ptr pz), some (.int room), u]) ?_ ?_ ?_
    · exact ⟨[], most, t2, fun s hs => (by cases hs), Nat.le_refl _, fun z => (by omega), by omega, fun _ => rfl, by simp, by omega, by omega, by omega, s3, Mm.upd_same, none, rfl⟩
    · rintro k σ N hk ⟨sz, room, t', hb, hl, hl1, r1, r0, hpr, r128, t1, t2', sN, ez, u, rfl⟩
      law_fin
      by_cases hr : 2 ≤ room
      · simp only [decide_eq_true hr, if_true]
        unfold xApp
        law_fin
        refine ⟨⟨_, ez⟩, ?_⟩
        have mn : 1 ≤ min wide (room - 1) ∧ min wide (room - 1) ≤ 8 ∧ min wide (room - 1) ≤ room - 1 := by omega
        refine sN.take (by omega) (by omega) (by omega) (by omega) fun r N1 v0 v1 sN1 k1 => ?_
        have e2 : sizeLine = 2 ^ 24 := rfl
        have ez1 : N1 pz = some (.lst (sz.map D.int)) := by rw [k1 pz f2]; exact ez
        law_fin
        refine ⟨_, ez1, by rw [List.length_map]; omega, ?_⟩
        refine oIx_at (p := pz) (i := -1) (x := .int (2 + r)) Mm.upd_same atI_last ?_
        have d1 : 1 ≤ room / (2 + r) := by
          rw [Int.le_ediv_iff_mul_le (by omega)]
          omega
        have d2 : (2 + r) * (room / (2 + r)) ≤ room := by
          have := Int.ediv_mul_le room (show (2 + r : Int) ≠ 0 by omega)
          rw [Int.mul_comm]
          exact this
        have d3 : room / (2 + r) ≤ room := Int.ediv_le_self _ (by omega)
        have pp : 1 ≤ sz.prod := prod_pos fun s hs => by have := hb s hs; omega
        refine ⟨⟨by omega, by omega⟩, sz ++ [2 + r], _, t' + 1, ?_, ?_, ?_, d1, ?_, ?_, by omega, by omega, by omega, sN1.put f1 f2, ?_, _, rfl⟩
        · intro s hs
          rcases List.mem_append.mp hs with h | h
          · exact hb s h
          · rw [List.mem_singleton.mp h]
            omega
        · rw [List.length_append, List.length_singleton]
          omega
        · intro _
          rw [List.length_append, List.length_singleton]
          omega
        · intro z
          omega
        · rw [prod_app, List.prod_cons, List.prod_nil, Int.mul_one, Int.mul_assoc]
          exact Int.le_trans (Int.mul_le_mul_of_nonneg_left d2 (by omega)) hpr
        · rw [Mm.upd_same, List.map_append]
          rfl
      · simp only [decide_eq_false hr, Bool.false_eq_true, if_false]
        have k0 : k ≠ 0 := fun z => by have := r0 z; omega
        exact ⟨sz, room, t', hb, by omega, fun _ => hl1 (by omega), r1, fun z => by omega, hpr, r128, t1, by omega, sN, ez, _, rfl⟩
    · rintro σ N ⟨sz, room, t', hb, hl, hl1, r1, r0, hpr, r128, t1, t2', sN, ez, u, rfl⟩
      law_fin
      have pp : 1 ≤ sz.prod := prod_pos fun s hs => by have := hb s hs; omega
      have : sz.prod ≤ most := by
        have := Int.mul_le_mul_of_nonneg_left r1 (show 0 ≤ sz.prod by omega)
        omega
      refine ⟨sz.map D.int, by unfold seqD; simp [ez], ?_⟩
      exact sN.done fun c hc => q sz c t' ⟨hb, hl1 m1, by omega, by omega⟩ this (by omega) (by omega) hc
  have two : ∀ (wide : Int), (wide = 8 ∨ wide = 2) → p__law_take [.ptr p, .int 8] M1 fun d M2 => oEq d (.int 0) M2 fun d M3 => match d with
      | .bl k => if k = true then zSeq (zPar 4 5 (aCons (xLstM aNil) (aCons (xV 1) aNil))) (zSeq (zFor (iRange1 (aCons (xV 3) aNil)) (yN 6) (zIf (xTst (xOp oGe (xV 5) (xC (.int 2)))) (zSeq (zExpr (xApp (xV 4) (xOp oAdd (xC (.int 2)) (xCall p__law_take (aCons (xV 0) (aCons (xB (c2 kMin2) (aCons (xV 2) (aCons (xOp oSub (xV 5) (xC (.int 1))) aNil))) aNil)))))) (zSet 5 (xOp oFdiv (xV 5) (xOp oIx (xV 4) (xNeg (xC (.int 1))))))) zSkip)) (zRet (xB (c1 kTuple) (aCons (xV 4) aNil)))) (Ends R) [some (.ptr p), some (.int most), some (.int wide), some (.int 1), none, none, none] M3
        else p__law_take [.ptr p, .int 5] M3 fun d M4 => oAdd (.int 2) d M4 fun d M5 => zSeq (zPar 4 5 (aCons (xLstM aNil) (aCons (xV 1) aNil))) (zSeq (zFor (iRange1 (aCons (xV 3) aNil)) (yN 6) (zIf (xTst (xOp oGe (xV 5) (xC (.int 2)))) (zSeq (zExpr (xApp (xV 4) (xOp oAdd (xC (.int 2)) (xCall p__law_take (aCons (xV 0) (aCons (xB (c2 kMin2) (aCons (xV 2) (aCons (xOp oSub (xV 5) (xC (.int 1))) aNil))) aNil)))))) (zSet 5 (xOp oFdiv (xV 5) (xOp oIx (xV 4) (xNeg (xC (.int 1))))))) zSkip)) (zRet (xB (c1 kTuple) (aCons (xV 4) aNil)))) (Ends R) [some (.ptr p), some (.int most), some (.int wide), some d, none, none, none] M5
      | _ => False := by
    intro wide hw
    refine s1.take (by omega) (by omega) (by omega) (by omega) fun v M2 _ _ s2 _ => ?_
    rw [oEq_int]
    by_cases e : v = 0
    · simp only [decide_eq_true e, if_true]
      exact rest wide 1 M2 _ hw (by omega) (by omega) s2 (by omega) (by omega)
    · simp only [decide_eq_false e, Bool.false_eq_true, if_false]
      refine s2.take (by omega) (by omega) (by omega) (by omega) fun z M3 z0 z1 s3 _ => ?_
      rw [oAdd_int]
      obtain ⟨m, hm⟩ : ∃ m : Nat, 2 + z = (m : Int) := ⟨(2 + z).toNat, by omega⟩
      rw [hm]
      exact rest wide m M3 _ hw (by omega) (by omega) s3 (by omega) (by omega)
  rw [oEq_int]
  by_cases e : w1 = 0
  · simp only [decide_eq_true e, if_true]
    exact two 8 (Or.inl rfl)
  · simp only [decide_eq_false e, Bool.false_eq_true, if_false]
    exact two 2 (Or.inr rfl)
end K68

set_option Elab.async false
set_option linter.all false
set_option maxRecDepth 100000
set_option maxHeartbeats 4000000
namespace K68
open PySem PySem.Spec L2 DL

local macro_rules | `(tactic| law_fin) => `(tactic| try simp only [zSeq, zSet, zIf, zRet, zSkip, zPar, zPar3, zExpr, zAsg, zNo, zBreak, zCont, xOp, xV, xC, xTst, xAnd, xOr, xNot, xIf, xChain, xB, xCall, c1, c2, o2, aCons, aNil, xTup, xLst, slot, put, oSub, oMul, oFdiv, oMod, oPow, oLe, oGt, oGe, xYes, yN, yTup, yCons, yNil, wipeD, List.set_cons_succ, List.set_cons_zero, kInt, kAbs, kMax2, kMin2, xNeg,
  kLen_tup, List.length_map, if_true, if_false, Bool.false_eq_true, kLen_lst, oEq_int, oNe_int, oEq_tI, oNe_tI, oAdd_int, oAdd_tup])

theorem ixN_nat {n k : Nat} (h : k < n) : ixN n (k : Int) = some k := by
  unfold ixN
  rw [if_pos (by omega), if_pos (by omega), Int.toNat_natCast]
theorem iRange1_go {a : DA} {σ : DL.Env} {M : Mm} {R : DIK} (n : Nat) (hn : n < 2 ^ 62) (ha : ∀ K : List D → Mm → Prop, K [.int (n : Int)] M → a σ M K) (q : R (rangeD 0 (n : Int)) (fun _ => True) M) : iRange1 a σ M R := ha _ ⟨rng_nat hn, q⟩
/-! ### _law_far_table -/
def p__law_far_table : DSp := fun ds M Q => ∃ (p : Addr) (t : Int) (m : Nat), ds = [.ptr p, .int (m : Int)] ∧ Pool t (M p) ∧ 0 ≤ t ∧ t < 2 ^ 30 ∧ 1 ≤ m ∧ m ≤ 128 ∧
  ∀ vals c t', vals.length = m → t ≤ t' → t' ≤ t + 1000 → Pool t' (some c) → Q (tI vals) (M.upd p c)
theorem q__law_far_table : ∀ ds M R, ds.length = 2 → p__law_far_table ds M R → b__law_far_table p__law_take (Ends R) (enter 6 ds) M := by
  rintro _ M R - ⟨p, t, m, rfl, hp, ht, ht2, hm, hm2, q⟩
  show b__law_far_table _ _ [some (.ptr p), some (.int m), none, none, none, none] M
  unfold b__law_far_table
  law_fin
  unfold xLcM
  law_fin
  have e2 : sizeLine = 2 ^ 24 := rfl
  have s0 := PS.start hp
  refine iRange1_go m (by omega) (fun K k => by law_fin; exact k) (fun pv npv => ⟨fun i acc N => acc = (rangeD 0 (m : Int)).take i ∧ N = M.upd pv (.lst acc), ⟨by simp, rfl⟩, ?_, ?_⟩)
  · rintro i x acc N hx ⟨rfl, rfl⟩
    have hl := (List.getElem?_eq_some_iff.mp hx).1
    rw [rangeD_len] at hl
    refine ⟨trivial, Mm.upd_same, Mm.upd_same, ?_, (take_succ' hx).symm, ?_⟩
    · rw [List.length_take, rangeD_len]
      omega
    · rw [Mm.upd_upd]
  rintro acc N ⟨rfl, rfl⟩
  rw [List.take_length]
  refine ⟨trivial, Mm.upd_same, ?_⟩
  obtain ⟨f1, f2⟩ := s0.fresh npv
  have re : rangeD 0 (m : Int) = ((List.range m).map fun k => ((k : Nat) : Int)).map D.int := by
    unfold rangeD
    rw [List.map_map, Int.sub_zero, Int.toNat_natCast]
    congr 1
    funext k
    simp
  rw [re]
  refine DL.for_range 12 (by omega) (fun K k => by law_fin; exact k) (fun k σ N => ∃ (vals : List Int) (t' : Int), vals.length = m ∧ t ≤ t' ∧ t' ≤ t + 2 * k ∧ PS p t' M N ∧ N pv = some (.lst (vals.map D.int)) ∧
    ∃ u v, σ = [some (.ptr p), some (.int m), some (.ptr pv), none, u, v]) ?_ ?_ ?_
  · exact ⟨_, t, by rw [List.length_map, List.length_range], by omega, by omega, s0.put f1 f2, Mm.upd_same, none, none, rfl⟩
  · rintro k σ N hk ⟨vals, t', hl, t1, t2, sN, ev, u, v, rfl⟩
    law_fin
    refine sN.take (by omega) (by omega) (by omega) (by omega) fun a N1 a0 a1 sN1 k1 => ?_
    law_fin
    refine sN1.take (by omega) (by omega) (by omega) (by omega) fun x N2 _ _ sN2 k2 => ?_
    obtain ⟨j, rfl⟩ : ∃ j : Nat, a = (j : Int) := ⟨a.toNat, by omega⟩
    have ev2 : N2 pv = some (.lst (vals.map D.int)) := by rw [k2 pv f2, k1 pv f2]; exact ev
    refine ySub_at (p := pv) (n := (j : Int)) (j := j) (fun K k => k) (fun K k => k) ev2 (ixN_nat (by rw [List.length_map]; omega)) ?_
    refine ⟨vals.set j x, _, by rw [List.length_set]; exact hl, by omega, by omega, sN2.put f1 f2, ?_, _, _, rfl⟩
    rw [Mm.upd_same, List.map_set]
  · rintro σ N ⟨vals, t', hl, t1, t2, sN, ev, u, v, rfl⟩
    law_fin
    refine ⟨vals.map D.int, by unfold seqD; simp [ev], ?_⟩
    exact sN.done fun c hc => q vals c t' hl (by omega) (by omega) hc
/-! ### _law_near -/
def p__law_near : DSp := fun ds M Q => ∃ (p : Addr) (t : Int) (vals : List Int), ds = [.ptr p, tI vals] ∧ Pool t (M p) ∧ 0 ≤ t ∧ t < 2 ^ 30 ∧ 1 ≤ vals.length ∧ vals.length ≤ 128 ∧
  ∀ news c t', news.length = vals.length → t ≤ t' → t' ≤ t + 1000 → Pool t' (some c) → Q (tI news) (M.upd p c)
theorem q__law_near : ∀ ds M R, ds.length = 2 → p__law_near ds M R → b__law_near p__law_take (Ends R) (enter 5 ds) M := by
  rintro _ M R - ⟨p, t, vals, rfl, hp, ht, ht2, hm, hm2, q⟩
  show b__law_near _ _ [some (.ptr p), some (tI vals), none, none, none] M
  unfold b__law_near
  law_fin
  have s0 := PS.start hp
  refine s0.take ht (by omega) (by omega) (by omega) fun a M1 a0 a1 s1 _ => ?_
  refine s1.take (by omega) (by omega) (by omega) (by omega) fun b M2 b0 b1 s2 _ => ?_
  unfold kListM
  law_fin
  refine ⟨vals.map D.int, rfl, fun pn npn => ?_⟩
  obtain ⟨f1, f2⟩ := s2.fresh npn
  have s3 := s2.put (c := .lst (vals.map D.int)) f1 f2
  obtain ⟨j, rfl⟩ : ∃ j : Nat, a = (j : Int) := ⟨a.toNat, by omega⟩
  obtain ⟨i, rfl⟩ : ∃ i : Nat, b = (i : Int) := ⟨b.toNat, by omega⟩
  refine s3.take (by omega) (by omega) (by omega) (by omega) fun c N _ _ s4 k4 => ?_
  have en : N pn = some (.lst (vals.map D.int)) := by rw [k4 pn f2, Mm.upd_same]
  have fin : ∀ x : Int, ySub (xV 4) (xV 2) (.int x) [some (.ptr p), some (tI vals), some (.int j), some (.int i), some (.ptr pn)] N fun σ N => kTuple (match slot σ 4 with | some d => d | none => .non) N (fun d M' => ∃ e M2, Gone M' M2 d e ∧ R e M2) := by
    intro x
    refine ySub_at (p := pn) (n := (j : Int)) (j := j) (fun K k => k) (fun K k => k) en (ixN_nat (by rw [List.length_map]; omega)) ?_
    show kTuple (.ptr pn) _ _
    refine ⟨(vals.set j x).map D.int, by unfold seqD; simp [Mm.upd_same, List.map_set], ?_⟩
    exact (s4.put f1 f2).done fun c hc => q _ c _ (by rw [List.length_set]) (by omega) (by omega) hc
  by_cases e : (0 : Int) < c
  · simp only [decide_eq_true e, if_true]
    rw [oIx_tI (by omega)]
    exact fin _
  · simp only [decide_eq_false e, Bool.false_eq_true, if_false]
    cases vals with
    | nil => simp at hm
    | cons v vs =>
      refine ⟨v, vs, rfl, ?_⟩
      show oAdd (.int _) (.int 1) _ _
      rw [oAdd_int]
      exact fin _
/-! ### _law_table -/
theorem lc_take {p : Addr} {t : Int} {M M' : Mm} {Q : DK} {σ : DL.Env} {a : DE} {i : Nat} {vs : List Nat} {sz : List Int} (s : PS p t M M') (ha : ∀ K : DK, K (tI sz) M' → a σ M' K) (hl : sz.length ≤ 1000) (h0 : 0 ≤ t) (h1 : t + 1000 < 2 ^ 40)
    (hp : ∀ x, slot (put (wipeD σ vs) i x) 0 = some (.ptr p)) (q : ∀ (fs : List Int) N, fs.length = sz.length → (∀ f ∈ fs, 0 ≤ f ∧ f < 9) → PS p (t + sz.length) M N → (∀ b, b ≠ p → M' b ≠ none → N b = M' b) → Q (.lst (fs.map D.int)) N) :
    xLc (iSeq a) (yN i) xYes (xCall p__law_take (aCons (xV 0) (aCons (xC (.int 9)) aNil))) vs σ M' Q := by
  unfold xLc xLcM iSeq
  refine ha _ fun r nr => ?_
  obtain ⟨f1, f2⟩ := s.fresh nr
  refine ⟨fun k acc N => ∃ fs : List Int, acc = fs.map D.int ∧ fs.length = k ∧ (∀ f ∈ fs, 0 ≤ f ∧ f < 9) ∧ PS p (t + k) M N ∧ N r = some (.lst acc) ∧ ∀ b, b ≠ p → M' b ≠ none → N b = M' b, ?_, ?_, ?_⟩
  · refine ⟨[], rfl, rfl, fun f hf => (by cases hf), by have := s.put (c := .lst []) f1 f2; simpa using this, Mm.upd_same, fun b _ hb => ?_⟩
    rw [Mm.upd_ne (fun e => hb (by rw [e]; exact nr))]
  · rintro k x acc N hx ⟨fs, rfl, hk, hf, sN, er, keep⟩
    have hlt := (List.getElem?_eq_some_iff.mp hx).1
    rw [List.length_map] at hlt
    refine ⟨trivial, er, ?_⟩
    simp only [yN, xYes, if_true, xCall, aCons, aNil, xV, xC, hp]
    refine sN.take (by omega) (by omega) (by omega) (by omega) fun v N1 v0 v9 sN1 k1 => ?_
    have er1 : N1 r = some (.lst (fs.map D.int)) := by rw [k1 r f2]; exact er
    refine ⟨er1, ?_, fs ++ [v], by rw [List.map_append]; rfl, by simp [hk], ?_, ?_, Mm.upd_same, ?_⟩
    · have e2 : sizeLine = 2 ^ 24 := rfl
      rw [List.length_map]
      omega
    · intro f h
      rcases List.mem_append.mp h with h | h
      · exact hf f h
      · rw [List.mem_singleton.mp h]
        exact ⟨v0, v9⟩
    · have e : t + ((k + 1 : Nat) : Int) = t + k + 1 := by omega
      rw [e]
      exact sN1.put f1 f2
    · intro b hb hb2
      rw [Mm.upd_ne (fun e => hb2 (by rw [e]; exact nr)), k1 b hb, keep b hb hb2]
  · rintro acc N ⟨fs, rfl, hk, hf, sN, er, keep⟩
    rw [List.length_map] at hk sN
    refine ⟨trivial, er, _, er, ?_⟩
    refine q fs _ hk hf ?_ fun b hb hb2 => ?_
    · obtain ⟨c, hc, sb⟩ := sN
      refine ⟨c, hc, fun b d z => ?_⟩
      have hbr : b ≠ r := fun e => by
        rw [e, Mm.upd_ne f2, f1] at z
        cases z
      unfold Mm.del
      rw [if_neg hbr]
      exact sb b d z
    · unfold Mm.del
      rw [if_neg (fun e => hb2 (by rw [e]; exact nr))]
      exact keep b hb hb2
def p__law_table : DSp := fun ds M Q => ∃ (p : Addr) (t : Int) (sz : List Int) (m : Nat), ds = [.ptr p, tI sz, .int (m : Int)] ∧ Pool t (M p) ∧ 0 ≤ t ∧ t < 2 ^ 29 ∧ SzOk sz ∧ 1 ≤ m ∧ m ≤ 128 ∧
  ∀ vals c t', vals.length = m → t ≤ t' → t' ≤ t + 2000 → Pool t' (some c) → Q (tI vals) (M.upd p c)
theorem q__law_table : ∀ ds M R, ds.length = 3 → p__law_table ds M R → b__law_table p__law_far_table p__law_take p__law_content (Ends R) (enter 14 ds) M := by
  rintro _ M R - ⟨p, t, sz, m, rfl, hp, ht, ht2, ok, hm, hm2, q⟩
  show b__law_table _ _ _ _ [some (.ptr p), some (tI sz), some (.int m), none, none, none, none, none, none, none, none, none, none, none] M
  unfold b__law_table
  law_fin
  have e2 : sizeLine = 2 ^ 24 := rfl
  have s0 := PS.start hp
  by_cases h36 : (36 : Int) < (m : Int)
  · simp only [decide_eq_true h36, if_true]
    exact ⟨p, t, m, rfl, hp, ht, by omega, hm, hm2, fun vals c t' hl h1 h2 hc => gone_same Sub.refl (q vals c t' hl h1 (by omega) hc)⟩
  simp only [decide_eq_false h36, Bool.false_eq_true, if_false]
  refine s0.take ht (by omega) (by omega) (by omega) fun way M1 _ _ s1 _ => ?_
  refine s1.take (by omega) (by omega) (by omega) (by omega) fun few M2 f0 f1 s2 _ => ?_
  rw [oAdd_int]
  refine s2.take (by omega) (by omega) (by omega) (by omega) fun w4 M3 _ _ s3 _ => ?_
  have szb : ∀ s ∈ sz, 1 ≤ s ∧ s < 1073741824 := fun s hs => by have := ok.b s hs; omega
  have l6 := ok.l6
  -- the loop and what follows
  have rest : ∀ (step base : Int) (N0 : Mm) (t0 : Int), 0 ≤ step → step ≤ 1001 → PS p t0 M N0 → t ≤ t0 → t0 ≤ t + 10 →
      zSeq (zAsg (xTup (aCons (xLc (iSeq (xV 1)) (yN 9) (xYes) (xCall p__law_take (aCons (xV 0) (aCons (xC (.int 9)) (aNil)))) [9]) (aCons (xLstM (aNil)) (aNil)))) (yTup 2 (yCons (yN 7) (yCons (yN 8) (yNil))))) (
    zSeq (zFor (iRange1 (aCons (xV 2) (aNil))) (yN 10) (zSeq (zAsg (xTup (aCons (xCall p__law_content (aCons (xV 1) (aCons (xV 10) (aNil)))) (aCons (xV 10) (aNil)))) (yTup 2 (yCons (yN 11) (yCons (yN 12) (yNil))))) (
    zSeq (zIf (xTst (xOp oEq (xV 3) (xC (.int 1)))) (zSet 12 (xC (.int 0))) (zIf (xTst (xOp oEq (xV 3) (xC (.int 2)))) (zSet 12 (xCall p__law_take (aCons (xV 0) (aCons (xC (.int 2)) (aNil))))) (zIf (xTst (xOp oEq (xV 3) (xC (.int 3)))) (zSet 12 (xCall p__law_take (aCons (xV 0) (aCons (xV 4) (aNil))))) (zIf (xTst (xOp oGt (xV 3) (xC (.int 3)))) (zSet 12 (xOp oMod (xB (c1 kInt) (aCons (xB (c1 kSum) (aCons (xLc (iRange1 (aCons (xB (c1 kLen) (aCons (xV 1) (aNil))) (aNil))) (yN 13) (xYes) (xOp oMul (xOp oIx (xV 7) (xV 13)) (xOp oIx (xV 11) (xV 13))) [13]) (aNil))) (aNil))) (xOp oAdd (xC (.int 1)) (xV 4)))) (zSkip))))) (
    zExpr (xApp (xV 8) (xOp oAdd (xV 6) (xOp oMul (xV 5) (xV 12)))))))) (
    zRet (xB (c1 kTuple) (aCons (xV 8) (aNil))))) (Ends R) [some (.ptr p), some (tI sz), some (.int m), some (.int way), some (.int (1 + few)), some (.int step), some (.int base), none, none, none, none, none, none, none] N0 := by
    intro step base N0 t0 st0 st1 s4 h1 h2
    law_fin
    refine lc_take s4 (fun K k => k) (by omega) (by omega) (by omega) (fun x => rfl) fun fs N fl fb s5 _ => ?_
    unfold xLstM
    law_fin
    refine ⟨Nat.zero_le _, fun pv npv => ⟨by simp [sizeLine], by simp, ?_⟩⟩
    obtain ⟨g1, g2⟩ := s5.fresh npv
    refine DL.for_range m (by omega) (fun K k => by law_fin; exact k) (fun k σ N => ∃ (vals : List Int) (t' : Int), vals.length = k ∧ t ≤ t' ∧ t' ≤ t + 20 + k ∧ PS p t' M N ∧ N pv = some (.lst (vals.map D.int)) ∧
      ∃ u v w x y, σ = [some (.ptr p), some (tI sz), some (.int m), some (.int way), some (.int (1 + few)), some (.int step), some (.int base), some (.lst (fs.map D.int)), some (.ptr pv), u, v, w, x, y]) ?_ ?_ ?_
    · exact ⟨[], _, rfl, by omega, by omega, s5.put g1 g2, Mm.upd_same, _, _, _, _, _, rfl⟩
    · rintro k σ N hk ⟨vals, t', hl, t1, t2, sN, ev, u, v, w, x, y, rfl⟩
      law_fin
      refine ⟨sz, _, rfl, szb, by omega, ⟨by simp [sizeLine], by simp, ?_⟩⟩
      have dl := digits_len sz (k : Int)
      generalize digits sz (k : Int) = ct at dl ⊢
      have fin : ∀ (value : Int) (N' : Mm) (t'' : Int), PS p t'' M N' → (∀ x, x ≠ p → N' x = N x) → t ≤ t'' → t'' ≤ t' + 1 →
          xApp (xV 8) (xOp oAdd (xV 6) (xOp oMul (xV 5) (xV 12))) [some (.ptr p), some (tI sz), some (.int m), some (.int way), some (.int (1 + few)), some (.int step), some (.int base), some (.lst (fs.map D.int)), some (.ptr pv), u, some (.int k), some (tI ct), some (.int value), y] N' fun _ N1 =>
            ∃ (vals : List Int) (t' : Int), vals.length = k + 1 ∧ t ≤ t' ∧ t' ≤ t + 20 + ((k + 1 : Nat) : Int) ∧ PS p t' M N1 ∧ N1 pv = some (.lst (vals.map D.int)) ∧
      ∃ u' v' w' x' y', [some (.ptr p), some (tI sz), some (.int m), some (.int way), some (.int (1 + few)), some (.int step), some (.int base), some (.lst (fs.map D.int)), some (.ptr pv), u, some (.int k), some (tI ct), some (.int value), y] = [some (.ptr p), some (tI sz), some (.int m), some (.int way), some (.int (1 + few)), some (.int step), some (.int base), some (.lst (fs.map D.int)), some (.ptr pv), u', v', w', x', y'] := by
        intro value N' t'' sN' kN' q1 q2
        have ev' : N' pv = some (.lst (vals.map D.int)) := by rw [kN' pv g2]; exact ev
        unfold xApp
        law_fin
        refine ⟨⟨_, ev'⟩, Or.inl (by omega), _, ev', by rw [List.length_map]; omega, vals ++ [base + step * value], t'', by simp [hl], q1, by omega, sN'.put g1 g2, ?_, _, _, _, _, _, rfl⟩
        rw [Mm.upd_same, List.map_append]
        rfl
      repeat' split
      all_goals first
        | exact fin _ N _ sN (fun _ _ => rfl) (by omega) (by omega)
        | (refine sN.take (by omega) (by omega) (by omega) (by omega) fun v2 N2 _ _ sN2 k2 => ?_
           exact fin _ N2 _ sN2 (fun x hx => k2 x hx) (by omega) (by omega))
        | skip
      refine lc_pure (rangeD 0 (sz.length : Int)) (fun x => match x with | .int j => some (.int (fs.getD j.toNat 0 * ct.getD j.toNat 0)) | _ => none) (fun K k => iRange1_go sz.length (by omega) (fun K k => by law_fin; exact k) k) (by rw [rangeD_len]; omega) ?_ ?_
      · intro z N1 hz sb K1 K0 k1 k0
        obtain ⟨j, hj, rfl⟩ := List.getElem_of_mem hz
        have hj' := hj
        rw [rangeD_len] at hj'
        have ez := (rangeD_get (List.getElem?_eq_getElem hj)).2
        rw [ez] at k1 k0 ⊢
        have jf : j < fs.length := by omega
        have jc : j < ct.length := by omega
        law_fin
        refine oIx_lst (x := .int fs[j]) (by rw [List.getElem?_map, List.getElem?_eq_getElem jf]; rfl) ?_
        rw [oIx_tI jc]
        have fj := fb fs[j] (List.getElem_mem jf)
        refine ⟨Or.inl (by omega), k1 _ ?_⟩
        show some (D.int (fs.getD (Int.toNat (j : Int)) 0 * ct.getD (Int.toNat (j : Int)) 0)) = _
        rw [Int.toNat_natCast, getD_get jf, getD_get jc]
      · have e : (rangeD 0 (sz.length : Int)).filterMap (fun x => match x with | .int j => some (.int (fs.getD j.toNat 0 * ct.getD j.toNat 0)) | _ => none) = ((List.range sz.length).map fun j => fs.getD j 0 * ct.getD j 0).map D.int := by
          unfold rangeD
          rw [List.filterMap_map, List.map_map, Int.sub_zero, Int.toNat_natCast]
          refine Eq.trans ?_ fm_some
          congr 1
          funext j
          simp
        rw [e]
        refine ⟨_, rfl, ?_⟩
        law_fin
        refine ⟨by omega, ?_⟩
        exact fin _ N _ sN (fun _ _ => rfl) (by omega) (by omega)
    · rintro σ N ⟨vals, t', hl, t1, t2, sN, ev, u, v, w, x, y, rfl⟩
      law_fin
      refine ⟨vals.map D.int, by unfold seqD; simp [ev], ?_⟩
      exact sN.done fun c hc => q vals c t' hl (by omega) (by omega) hc
  -- the base
  have two : ∀ (step : Int) (N0 : Mm) (t0 : Int), 0 ≤ step → step ≤ 1001 → PS p t0 M N0 → t ≤ t0 → t0 ≤ t + 5 →
      zSeq (zSet 6 (xIf (xTst (xOp oEq (xCall p__law_take (aCons (xV 0) (aCons (xC (.int 2)) (aNil)))) (xC (.int 0)))) (xC (.int 0)) (xCall p__law_take (aCons (xV 0) (aCons (xC (.int 1000)) (aNil)))))) (
      zSeq (zAsg (xTup (aCons (xLc (iSeq (xV 1)) (yN 9) (xYes) (xCall p__law_take (aCons (xV 0) (aCons (xC (.int 9)) (aNil)))) [9]) (aCons (xLstM (aNil)) (aNil)))) (yTup 2 (yCons (yN 7) (yCons (yN 8) (yNil))))) (
    zSeq (zFor (iRange1 (aCons (xV 2) (aNil))) (yN 10) (zSeq (zAsg (xTup (aCons (xCall p__law_content (aCons (xV 1) (aCons (xV 10) (aNil)))) (aCons (xV 10) (aNil)))) (yTup 2 (yCons (yN 11) (yCons (yN 12) (yNil))))) (
    zSeq (zIf (xTst (xOp oEq (xV 3) (xC (.int 1)))) (zSet 12 (xC (.int 0))) (zIf (xTst (xOp oEq (xV 3) (xC (.int 2)))) (zSet 12 (xCall p__law_take (aCons (xV 0) (aCons (xC (.int 2)) (aNil))))) (zIf (xTst (xOp oEq (xV 3) (xC (.int 3)))) (zSet 12 (xCall p__law_take (aCons (xV 0) (aCons (xV 4) (aNil))))) (zIf (xTst (xOp oGt (xV 3) (xC (.int 3)))) (zSet 12 (xOp oMod (xB (c1 kInt) (aCons (xB (c1 kSum) (aCons (xLc (iRange1 (aCons (xB (c1 kLen) (aCons (xV 1) (aNil))) (aNil))) (yN 13) (xYes) (xOp oMul (xOp oIx (xV 7) (xV 13)) (xOp oIx (xV 11) (xV 13))) [13]) (aNil))) (aNil))) (xOp oAdd (xC (.int 1)) (xV 4)))) (zSkip))))) (
    zExpr (xApp (xV 8) (xOp oAdd (xV 6) (xOp oMul (xV 5) (xV 12)))))))) (
    zRet (xB (c1 kTuple) (aCons (xV 8) (aNil)))))) (Ends R) [some (.ptr p), some (tI sz), some (.int m), some (.int way), some (.int (1 + few)), some (.int step), none, none, none, none, none, none, none, none] N0 := by
    intro step N0 t0 st0 st1 s4 h1 h2
    law_fin
    refine s4.take (by omega) (by omega) (by omega) (by omega) fun d N1 _ _ s5 _ => ?_
    rw [oEq_int]
    by_cases e : d = 0
    · simp only [decide_eq_true e, if_true]
      exact rest step 0 N1 _ st0 st1 s5 (by omega) (by omega)
    · simp only [decide_eq_false e, Bool.false_eq_true, if_false]
      refine s5.take (by omega) (by omega) (by omega) (by omega) fun b N2 _ _ s6 _ => ?_
      exact rest step b N2 _ st0 st1 s6 (by omega) (by omega)
  by_cases e : (0 : Int) < w4
  · simp only [decide_eq_true e, if_true]
    exact two 1 M3 _ (by omega) (by omega) s3 (by omega) (by omega)
  · simp only [decide_eq_false e, Bool.false_eq_true, if_false]
    refine s3.take (by omega) (by omega) (by omega) (by omega) fun b N2 _ _ s6 _ => ?_
    rw [oAdd_int]
    exact two (1 + b) N2 _ (by omega) (by omega) s6 (by omega) (by omega)
end K68

set_option Elab.async false
set_option linter.all false
set_option maxRecDepth 100000
set_option maxHeartbeats 4000000
namespace K68
open PySem PySem.Spec L2 DL

local macro_rules | `(tactic| law_fin) => `(tactic| try simp only [zSeq, zSet, zIf, zRet, zSkip, zPar, zPar3, zExpr, zAsg, zNo, zBreak, zCont, xOp, xV, xC, xTst, xAnd, xOr, xNot, xIf, xChain, xB, xCall, c1, c2, o2, aCons, aNil, xTup, xLst, slot, put, oSub, oMul, oFdiv, oMod, oPow, oLe, oGt, oGe, xYes, yN, yTup, yCons, yNil, wipeD, List.set_cons_succ, List.set_cons_zero, kInt, kAbs, kMax2, kMin2, xNeg,
  kLen_tup, List.length_map, if_true, if_false, Bool.false_eq_true, kLen_lst, oEq_int, oNe_int, oEq_tI, oNe_tI, oAdd_int, oAdd_tup])

/-! ### the plain law: mixtures -/
theorem flatMap_const {α β : Type} (f : α → List β) (m : Nat) : ∀ l : List α, (∀ x ∈ l, (f x).length = m) → (l.flatMap f).length = l.length * m
  | [], _ => by simp
  | x :: l, h => by
    rw [List.flatMap_cons, List.length_append, h x List.mem_cons_self, flatMap_const f m l fun y hy => h y (List.mem_cons_of_mem _ hy), List.length_cons, Nat.succ_mul]
    omega
theorem amix_due (o n : List Int) : ∀ k, ((amix o n k).length : Int) = due o n k
  | 0 => rfl
  | k + 1 => by
    have h := flatMap_const (fun c => (parts (o.getD k 0) (n.getD k 0)).map fun x => c ++ [x]) (parts (o.getD k 0) (n.getD k 0)).length (amix o n k) fun c _ => by rw [List.length_map]
    have ih := amix_due o n k
    show ((List.flatMap _ _).length : Int) = _
    rw [h, due]
    unfold parts
    split
    · rw [← ih]
      simp
    · rw [← ih]
      simp
theorem filter_one {α : Type} [DecidableEq α] (a : α) : ∀ l : List α, l.Nodup → a ∈ l → (l.filter fun c => !decide (c = a)).length + 1 = l.length
  | [], _, h => by cases h
  | x :: l, nd, h => by
    obtain ⟨n1, n2⟩ := List.nodup_cons.mp nd
    rw [List.filter_cons]
    by_cases e : x = a
    · subst e
      rw [if_neg (by simp)]
      have : l.filter (fun c => !decide (c = x)) = l := by
        rw [List.filter_eq_self]
        intro y hy
        have : y ≠ x := fun z => n1 (z ▸ hy)
        simp [this]
      rw [this]
      rfl
    · rw [if_pos (by simp [e])]
      have h' : a ∈ l := by
        rcases List.mem_cons.mp h with z | z
        · exact (e z.symm).elim
        · exact z
      have := filter_one a l n2 h'
      simp only [List.length_cons]
      omega
theorem self_amix (o n : List Int) : o ∈ amix o n o.length := (amix_mem o n _ o).mpr ⟨rfl, fun _ _ => Or.inl rfl⟩
theorem other_amix {o n : List Int} (h : o.length = n.length) : n ∈ amix o n o.length := (amix_mem o n _ n).mpr ⟨h.symm, fun _ _ => Or.inr rfl⟩
theorem list_ext {a b : List Int} (hl : a.length = b.length) (h : ∀ i, i < a.length → a.getD i 0 = b.getD i 0) : a = b := by
  apply List.ext_getElem hl
  intro i h1 h2
  have := h i h1
  rwa [getD_get h1, getD_get h2] at this
theorem mixed_ok {o n : List Int} (h : o.length = n.length) : Mixed o n (mixL o n) := by
  refine ⟨?_, fun c hc => (mixL_mem o n c).mp hc, fun i hi => ?_⟩
  · have e1 : (mixL o n).length = ((amix o n o.length).filter fun c => !decide (c = o) && !decide (c = n)).length := (sortBy_perm _ _).length_eq
    have e2 : ((amix o n o.length).filter fun c => !decide (c = o) && !decide (c = n)) = ((amix o n o.length).filter fun c => !decide (c = n)).filter fun c => !decide (c = o) := by
      rw [List.filter_filter]
    have nd := amix_nodup o n o.length
    have d := amix_due o n o.length
    rw [e1, e2, ← d]
    have f1 := filter_one n _ nd (other_amix h)
    by_cases e : o = n
    · have e3 : (((amix o n o.length).filter fun c => !decide (c = n)).filter fun c => !decide (c = o)) = (amix o n o.length).filter fun c => !decide (c = n) := by
        rw [List.filter_eq_self]
        intro c hc
        have := (List.mem_filter.mp hc).2
        rw [e]
        exact this
      have e4 : (amix o n o.length).length ≤ 1 := by
        have hall : ∀ c ∈ amix o n o.length, c = o := by
          intro c hc
          obtain ⟨c1, c2⟩ := (amix_mem o n _ c).mp hc
          refine list_ext c1 fun i hi => ?_
          rcases c2 i (by omega) with z | z
          · exact z
          · rw [z, e]
        cases hh : amix o n o.length with
        | nil => simp
        | cons x l =>
          cases l with
          | nil => simp
          | cons y l =>
            rw [hh] at hall nd
            have a1 := hall x (by simp)
            have a2 := hall y (by simp)
            rw [a1, a2] at nd
            simp at nd
      rw [e3]
      omega
    · have f2 := filter_one o _ (nd.sublist (List.filter_sublist (p := fun c => !decide (c = n)))) (List.mem_filter.mpr ⟨self_amix o n, by simp [e]⟩)
      omega
  · have p := sortBy_sorted tI ((amix o n o.length).filter fun c => !decide (c = o) && !decide (c = n))
    have nd := mixL_nodup o n
    have le : leBy tI (mixL o n)[i] (mixL o n)[i + 1] = true := List.pairwise_iff_getElem.mp p i (i + 1) (by have := hi; unfold mixL at this; omega) hi (by omega)
    refine leBy_lt (f := tI) (fun a b => tok_tI) le fun e => ?_
    have := (List.getElem?_inj (i := i) (j := i + 1) (by omega) nd).mp (by rw [List.getElem?_eq_getElem (by omega), List.getElem?_eq_getElem hi, e])
    omega
/-! ### contents by their numbers -/
theorem range_mul (s : Nat) : ∀ m : Nat, List.range (m * s) = (List.range m).flatMap fun q => (List.range s).map fun v => q * s + v
  | 0 => by simp
  | m + 1 => by
    rw [Nat.succ_mul, List.range_add, range_mul s m, List.range_succ, List.flatMap_append, List.flatMap_cons, List.flatMap_nil, List.append_nil]
theorem contents_digits : ∀ sz : List Int, (∀ s ∈ sz, 1 ≤ s) → contents sz = (List.range sz.prod.toNat).map fun k => digits sz ((k : Nat) : Int)
  | [], _ => rfl
  | s :: r, h => by
    have h1 := h s List.mem_cons_self
    have ih := contents_digits r fun x hx => h x (List.mem_cons_of_mem _ hx)
    have pr := prod_pos (sz := r) fun x hx => h x (List.mem_cons_of_mem _ hx)
    obtain ⟨m, rfl⟩ : ∃ m : Nat, s = (m : Int) := ⟨s.toNat, by omega⟩
    obtain ⟨q, hq⟩ : ∃ q : Nat, r.prod = (q : Int) := ⟨r.prod.toNat, by omega⟩
    have e : ((m : Int) :: r).prod.toNat = q * m := by
      rw [List.prod_cons, hq, Int.mul_comm]
      exact_mod_cast Int.toNat_natCast (q * m)
    rw [e, range_mul, List.map_flatMap]
    show (contents r).flatMap _ = _
    rw [ih, hq, Int.toNat_natCast, List.flatMap_map]
    congr 1
    funext k
    rw [List.map_map]
    apply List.map_congr_left
    intro v hv
    have hv' := List.mem_range.mp hv
    show ((v : Nat) : Int) :: digits r (k : Int) = digits ((m : Int) :: r) ((k * m + v : Nat) : Int)
    have m0 : (m : Int) ≠ 0 := by omega
    have d1 : ((k * m + v : Nat) : Int) % (m : Int) = v := by
      have : (k * m + v) % m = v := by rw [Nat.mul_comm, Nat.mul_add_mod]; exact Nat.mod_eq_of_lt hv'
      exact_mod_cast this
    have d2 : ((k * m + v : Nat) : Int) / (m : Int) = k := by
      have : (k * m + v) / m = k := by
        rw [Nat.mul_comm, Nat.mul_add_div (by omega), Nat.div_eq_of_lt hv', Nat.add_zero]
      exact_mod_cast this
    rw [digits, d1, d2]

/-! ### the plain law: the tears -/
section
variable {sz vals : List Int}
theorem at_digits (ok : SzOk sz) (hv : (vals.length : Int) = sz.prod) {k : Nat} (hk : k < vals.length) : (contents sz)[k]? = some (digits sz (k : Int)) := by
  rw [contents_digits sz ok.one, List.getElem?_map, List.getElem?_range (by omega)]
  rfl
theorem look_digits (ok : SzOk sz) (hv : (vals.length : Int) = sz.prod) {k : Nat} (hk : k < vals.length) : look (contents sz) vals (digits sz (k : Int)) = vals.getD k 0 := by
  rw [getD_get hk]
  exact look_at (contents_nodup sz) (at_digits ok hv hk) (List.getElem?_eq_getElem hk)
theorem mem_digits (ok : SzOk sz) (hv : (vals.length : Int) = sz.prod) {c : List Int} : c ∈ contents sz ↔ ∃ k, k < vals.length ∧ c = digits sz ((k : Nat) : Int) := by
  constructor
  · intro h
    rw [contents_digits sz ok.one] at h
    obtain ⟨k, hk, rfl⟩ := List.mem_map.mp h
    exact ⟨k, by have := List.mem_range.mp hk; omega, rfl⟩
  · rintro ⟨k, hk, rfl⟩
    exact List.mem_of_getElem? (at_digits ok hv hk)
theorem rowsN_mem (sz c o : List Int) : ∀ (k : Nat) (w : List Int), w ∈ rowsN sz c o k ↔ w.length = k ∧ ∀ i, i < k → if c.getD i 0 = o.getD i 0 then 0 ≤ w.getD i 0 ∧ w.getD i 0 < sz.getD i 0 else w.getD i 0 = c.getD i 0
  | 0, w => by
    show w ∈ [[]] ↔ _
    rw [List.mem_singleton]
    constructor
    · rintro rfl
      exact ⟨rfl, fun i h => absurd h (Nat.not_lt_zero _)⟩
    · rintro ⟨h, _⟩
      exact List.length_eq_zero_iff.mp h
  | k + 1, w => by
    show w ∈ List.flatMap _ _ ↔ _
    rw [List.mem_flatMap]
    constructor
    · rintro ⟨d, hd, hm⟩
      obtain ⟨h1, h2⟩ := (rowsN_mem sz c o k d).mp hd
      have key : ∀ x : Int, w = d ++ [x] → (if c.getD k 0 = o.getD k 0 then 0 ≤ x ∧ x < sz.getD k 0 else x = c.getD k 0) → w.length = k + 1 ∧ ∀ i, i < k + 1 → if c.getD i 0 = o.getD i 0 then 0 ≤ w.getD i 0 ∧ w.getD i 0 < sz.getD i 0 else w.getD i 0 = c.getD i 0 := by
        rintro x rfl hx
        refine ⟨by rw [List.length_append, h1]; rfl, fun i hi => ?_⟩
        by_cases e : i < k
        · rw [getD_lt (by omega)]
          exact h2 i e
        · have e' : i = k := by omega
          subst e'
          rw [getD_end h1.symm]
          exact hx
      split at hm
      · rename_i e
        obtain ⟨v, hv, rfl⟩ := List.mem_map.mp hm
        have := List.mem_range.mp hv
        refine key _ rfl ?_
        rw [if_pos e]
        omega
      · rename_i e
        refine key _ (List.mem_singleton.mp hm) ?_
        rw [if_neg e]
    · rintro ⟨h1, h2⟩
      have hne : w ≠ [] := by
        intro e
        subst e
        cases h1
      have hl : w.dropLast.length = k := by rw [List.length_dropLast]; omega
      have hc := List.dropLast_concat_getLast hne
      have last : w.getD k 0 = w.getLast hne := by
        have : (w.dropLast ++ [w.getLast hne]).getD k 0 = w.getLast hne := getD_end hl.symm
        rw [hc] at this
        exact this
      have h2k := h2 k (by omega)
      rw [last] at h2k
      refine ⟨w.dropLast, (rowsN_mem sz c o k _).mpr ⟨hl, fun i hi => ?_⟩, ?_⟩
      · have := h2 i (by omega)
        have e : w.getD i 0 = w.dropLast.getD i 0 := by
          have : (w.dropLast ++ [w.getLast hne]).getD i 0 = w.dropLast.getD i 0 := getD_lt (by omega)
          rw [hc] at this
          exact this
        rw [e] at this
        exact this
      · split
        · rename_i e
          rw [if_pos e] at h2k
          refine List.mem_map.mpr ⟨(w.getLast hne).toNat, List.mem_range.mpr (by omega), ?_⟩
          rw [Int.toNat_of_nonneg h2k.1]
          exact hc
        · rename_i e
          rw [if_neg e] at h2k
          rw [List.mem_singleton, ← h2k]
          exact hc.symm
theorem news_mem {c o w : List Int} : w ∈ newsL sz c o ↔ c ≠ o ∧ w.length = sz.length ∧ (∀ i, i < sz.length → if c.getD i 0 = o.getD i 0 then 0 ≤ w.getD i 0 ∧ w.getD i 0 < sz.getD i 0 else w.getD i 0 = c.getD i 0) ∧ w ≠ c := by
  unfold newsL
  split
  · rename_i e
    simp [e]
  · rename_i e
    rw [List.mem_filter, rowsN_mem]
    simp [e, and_assoc]
/-- a content torn between two: seen from the content and the one that is alike -/
theorem torn_iff {o w c : List Int} (ho : o ∈ contents sz) (hc : c ∈ contents sz) : (w ∈ contents sz ∧ c ∈ mixL o w) ↔ w ∈ newsL sz c o := by
  obtain ⟨o1, o2⟩ := contents_mem.mp ho
  obtain ⟨c1, c2⟩ := contents_mem.mp hc
  rw [news_mem, mixL_mem, contents_mem]
  constructor
  · rintro ⟨⟨w1, w2⟩, ⟨_, m⟩, n1, n2⟩
    refine ⟨n1, w1, fun i hi => ?_, fun e => n2 e.symm⟩
    split
    · exact w2 i hi
    · rename_i e
      rcases m i (by omega) with z | z
      · exact (e z).elim
      · exact z.symm
  · rintro ⟨n1, w1, m, n2⟩
    refine ⟨⟨w1, fun i hi => ?_⟩, ⟨by omega, fun i hi => ?_⟩, n1, fun e => n2 e.symm⟩
    · have := m i hi
      split at this
      · exact this
      · rw [this]
        exact c2 i hi
    · have := m i (by omega)
      split at this
      · rename_i e
        exact Or.inl e
      · exact Or.inr this.symm
theorem mixL_comm {o w c : List Int} (h : o.length = w.length) : c ∈ mixL o w ↔ c ∈ mixL w o := by
  rw [mixL_mem, mixL_mem]
  constructor
  · rintro ⟨⟨a, b⟩, d, e⟩
    exact ⟨⟨by omega, fun i hi => (b i (by omega)).symm⟩, e, d⟩
  · rintro ⟨⟨a, b⟩, d, e⟩
    exact ⟨⟨by omega, fun i hi => (b i (by omega)).symm⟩, e, d⟩
theorem tears_mem (ok : SzOk sz) (hv : (vals.length : Int) = sz.prod) (t : List (List Int)) : t ∈ duesL sz vals ↔ t ∈ foundL (contents sz) vals := by
  have fm : t ∈ foundL (contents sz) vals ↔ ∃ o ∈ contents sz, ∃ w ∈ contents sz, ∃ c, c ∈ mixL o w ∧ (look (contents sz) vals c = look (contents sz) vals o ∨ look (contents sz) vals c = look (contents sz) vals w) ∧ t = [o, w, c] := by
    unfold foundL tornF
    simp only [List.mem_flatMap, List.mem_map, List.mem_filter, Bool.or_eq_true, decide_eq_true_eq]
    constructor
    · rintro ⟨o, ho, w, hw, c, ⟨h1, h2⟩, rfl⟩
      exact ⟨o, ho, w, hw, c, h1, h2, rfl⟩
    · rintro ⟨o, ho, w, hw, c, h1, h2, rfl⟩
      exact ⟨o, ho, w, hw, c, ⟨h1, h2⟩, rfl⟩
  have dm : t ∈ duesL sz vals ↔ ∃ k, k < vals.length ∧ ∃ i, i < vals.length ∧ vals.getD i 0 = vals.getD k 0 ∧ ∃ w ∈ newsL sz (digits sz ((k : Nat) : Int)) (digits sz ((i : Nat) : Int)), t = [digits sz (i : Int), w, digits sz (k : Int)] ∨ t = [w, digits sz (i : Int), digits sz (k : Int)] := by
    unfold duesL dueF grp
    simp only [List.mem_flatMap, List.mem_map, List.mem_filter, List.mem_range, decide_eq_true_eq, List.mem_cons, List.not_mem_nil, or_false]
    constructor
    · rintro ⟨k, hk, _, ⟨i, ⟨hi, e⟩, rfl⟩, w, hw, h⟩
      exact ⟨k, hk, i, hi, e, w, hw, h⟩
    · rintro ⟨k, hk, i, hi, e, w, hw, h⟩
      exact ⟨k, hk, _, ⟨i, ⟨hi, e⟩, rfl⟩, w, hw, h⟩
  rw [fm, dm]
  constructor
  · rintro ⟨k, hk, i, hi, e, w, hw, h⟩
    have ho : digits sz (i : Int) ∈ contents sz := (mem_digits ok hv).mpr ⟨i, hi, rfl⟩
    have hc : digits sz (k : Int) ∈ contents sz := (mem_digits ok hv).mpr ⟨k, hk, rfl⟩
    obtain ⟨w1, w2⟩ := (torn_iff ho hc).mpr hw
    have lk : look (contents sz) vals (digits sz (k : Int)) = look (contents sz) vals (digits sz (i : Int)) := by
      rw [look_digits ok hv hk, look_digits ok hv hi, e]
    rcases h with rfl | rfl
    · exact ⟨_, ho, _, w1, _, w2, Or.inl lk, rfl⟩
    · refine ⟨_, w1, _, ho, _, (mixL_comm ?_).mp w2, Or.inr lk, rfl⟩
      rw [contents_mem_len ho, contents_mem_len w1]
  · rintro ⟨o, ho, w, hw, c, hm, h, rfl⟩
    have hc := mixL_in ho hw hm
    obtain ⟨k, hk, rfl⟩ := (mem_digits ok hv).mp hc
    rcases h with h | h
    · obtain ⟨i, hi, rfl⟩ := (mem_digits ok hv).mp ho
      rw [look_digits ok hv hk, look_digits ok hv hi] at h
      exact ⟨k, hk, i, hi, h.symm, w, (torn_iff ho hc).mp ⟨hw, hm⟩, Or.inl rfl⟩
    · obtain ⟨i, hi, rfl⟩ := (mem_digits ok hv).mp hw
      rw [look_digits ok hv hk, look_digits ok hv hi] at h
      refine ⟨k, hk, i, hi, h.symm, o, (torn_iff hw hc).mp ⟨ho, (mixL_comm ?_).mp hm⟩, Or.inr rfl⟩
      rw [contents_mem_len ho, contents_mem_len hw]
theorem found_nodup (sz vals : List Int) : (foundL (contents sz) vals).Nodup := by
  have nd := contents_nodup sz
  refine nodup_flatMap nd (fun o _ => nodup_flatMap nd (fun w _ => ?_) ?_) ?_
  · unfold tornF
    refine nodup_mapOn ((mixL_nodup o w).sublist List.filter_sublist) fun x _ y _ e => ?_
    simpa using e
  · intro w _ w' _ z hz hz'
    obtain ⟨c, _, rfl⟩ := List.mem_map.mp hz
    obtain ⟨c', _, e⟩ := List.mem_map.mp hz'
    simp at e
    exact e.1.symm
  · intro o _ o' _ z hz hz'
    obtain ⟨w, _, h1⟩ := List.mem_flatMap.mp hz
    obtain ⟨w', _, h2⟩ := List.mem_flatMap.mp hz'
    obtain ⟨c, _, rfl⟩ := List.mem_map.mp h1
    obtain ⟨c', _, e⟩ := List.mem_map.mp h2
    simp at e
    exact e.1.symm
theorem tears_same (ok : SzOk sz) (hv : (vals.length : Int) = sz.prod) : dedup (sortBy tT (duesL sz vals)) = sortBy tT (foundL (contents sz) vals) := by
  obtain ⟨d1, d2⟩ := dedup_sorted (le := leBy tT) (fun a b h1 h2 => leBy_anti (f := tT) (fun a b => tok_tT) h1 h2) _ (sortBy_sorted tT (duesL sz vals))
  refine sorted_one (f := tT) (fun a b => tok_tT) ?_ d1 (sortBy_sorted tT _)
  refine (List.perm_ext_iff_of_nodup d2 ((sortBy_perm tT _).nodup_iff.mpr (found_nodup sz vals))).mpr fun t => ?_
  rw [dedup_mem, (sortBy_perm tT _).mem_iff, (sortBy_perm tT _).mem_iff]
  exact tears_mem ok hv t
end
end K68

set_option Elab.async false
set_option linter.all false
set_option maxRecDepth 100000
set_option maxHeartbeats 4000000
namespace K68
open PySem PySem.Spec L2 DL

local macro_rules | `(tactic| law_fin) => `(tactic| try simp only [zSeq, zSet, zIf, zRet, zSkip, zPar, zPar3, zExpr, zAsg, zNo, zBreak, zCont, xOp, xV, xC, xTst, xAnd, xOr, xNot, xIf, xChain, xB, xCall, c1, c2, o2, aCons, aNil, xTup, xLst, slot, put, oSub, oMul, oFdiv, oMod, oPow, oLe, oGt, oGe, xYes, yN, yTup, yCons, yNil, wipeD, List.set_cons_succ, List.set_cons_zero, kInt, kAbs, kMax2, kMin2, xNeg,
  kLen_tup, List.length_map, if_true, if_false, Bool.false_eq_true, kLen_lst, oEq_int, oNe_int, oEq_tI, oNe_tI, oAdd_int, oAdd_tup])

/-! ### how many tears -/
theorem due_cons (a b : Int) (o n : List Int) : ∀ k, due (a :: o) (b :: n) (k + 1) = (if a = b then 1 else 2) * due o n k
  | 0 => by
    show (if a = b then 1 else 1 * 2) = (if a = b then 1 else 2) * 1
    split <;> rfl
  | k + 1 => by
    have ih := due_cons a b o n k
    rw [due, ih]
    show (if o.getD k 0 = n.getD k 0 then _ else _) = _ * (if o.getD k 0 = n.getD k 0 then _ else _)
    split
    · rfl
    · rw [Int.mul_assoc]
theorem due_pos (o n : List Int) : ∀ k, 1 ≤ due o n k
  | 0 => by show (1 : Int) ≤ 1; omega
  | k + 1 => by
    have := due_pos o n k
    rw [due]
    split <;> omega
theorem sum_app (a b : List Int) : (a ++ b).sum = a.sum + b.sum := by
  induction a with
  | nil => simp
  | cons x a ih => simp [ih, Int.add_assoc]
theorem sum_flat {α β : Type} (f : α → List β) (g : β → Int) : ∀ l : List α, ((l.flatMap f).map g).sum = (l.map fun x => ((f x).map g).sum).sum
  | [] => rfl
  | x :: l => by rw [List.flatMap_cons, List.map_append, sum_app, sum_flat f g l, List.map_cons, List.sum_cons]
theorem sum_mul {α : Type} (g : α → Int) (c : Int) : ∀ l : List α, (l.map fun x => g x * c).sum = (l.map g).sum * c
  | [] => by simp
  | x :: l => by rw [List.map_cons, List.sum_cons, sum_mul g c l, List.map_cons, List.sum_cons, Int.add_mul]
theorem sum_mul' {α : Type} (g : α → Int) (c : Int) (l : List α) : (l.map fun x => c * g x).sum = c * (l.map g).sum := by
  have : (fun x => c * g x) = fun x => g x * c := funext fun x => Int.mul_comm _ _
  rw [this, sum_mul, Int.mul_comm]
theorem sum_le {α : Type} {f g : α → Int} : ∀ {l : List α}, (∀ x ∈ l, f x ≤ g x) → (l.map f).sum ≤ (l.map g).sum
  | [], _ => Int.le_refl _
  | x :: l, h => by
    have h1 := h x List.mem_cons_self
    have h2 := sum_le (l := l) fun y hy => h y (List.mem_cons_of_mem _ hy)
    rw [List.map_cons, List.map_cons, List.sum_cons, List.sum_cons]
    omega
theorem sum_const {α : Type} (c : Int) : ∀ l : List α, (l.map fun _ => c).sum = l.length * c
  | [] => by simp
  | x :: l => by
    rw [List.map_cons, List.sum_cons, sum_const c l, List.length_cons]
    rw [show ((l.length + 1 : Nat) : Int) = (l.length : Int) + 1 by omega, Int.add_mul, Int.one_mul, Int.add_comm]
theorem ones (a : Int) : ∀ s : Nat, ((List.range s).map fun v => if a = ((v : Nat) : Int) then (1 : Int) else 2).sum = 2 * s - if 0 ≤ a ∧ a < s then 1 else 0
  | 0 => by
    rw [if_neg (by omega)]
    rfl
  | s + 1 => by
    rw [List.range_succ, List.map_append, sum_app, ones a s]
    simp only [List.map_cons, List.map_nil, List.sum_cons, List.sum_nil]
    by_cases e : a = (s : Int)
    · rw [if_pos e, if_neg (by omega), if_pos (by omega)]
      omega
    · rw [if_neg e]
      by_cases h : 0 ≤ a ∧ a < (s : Int)
      · rw [if_pos h, if_pos (by omega)]
        omega
      · rw [if_neg h, if_neg (by omega)]
        omega
def U (sz : List Int) : Int := (sz.map fun s => 2 * s - 1).prod
theorem due_sum : ∀ (sz o : List Int), o ∈ contents sz → ((contents sz).map fun n => due o n sz.length).sum = U sz
  | [], o, h => by
    rw [List.mem_singleton.mp h]
    rfl
  | s :: r, o, h => by
    obtain ⟨c, hc, hm⟩ := List.mem_flatMap.mp h
    obtain ⟨a, ha, rfl⟩ := List.mem_map.mp hm
    have ha' := List.mem_range.mp ha
    have ih := due_sum r c hc
    show (((contents r).flatMap fun c => (List.range s.toNat).map fun v => ((v : Nat) : Int) :: c).map fun n => due ((a : Int) :: c) n (r.length + 1)).sum = _
    rw [sum_flat]
    have e : (fun x : List Int => (((List.range s.toNat).map fun v => ((v : Nat) : Int) :: x).map fun n => due ((a : Int) :: c) n (r.length + 1)).sum) = fun x => (2 * s - 1) * due c x r.length := by
      funext x
      rw [List.map_map]
      have e1 : ((fun n => due ((a : Int) :: c) n (r.length + 1)) ∘ fun v : Nat => ((v : Nat) : Int) :: x) = fun v : Nat => (if (a : Int) = ((v : Nat) : Int) then (1 : Int) else 2) * due c x r.length := by
        funext v
        exact due_cons _ _ _ _ _
      rw [e1, sum_mul, ones, if_pos (by omega), Int.toNat_of_nonneg (by omega)]
    rw [e, sum_mul', ih]
    unfold U
    rw [List.map_cons, List.prod_cons]
theorem flat_sum {α β : Type} {f : α → List β} {g : α → Int} : ∀ {l : List α}, (∀ x ∈ l, ((f x).length : Int) ≤ g x) → ((l.flatMap f).length : Int) ≤ (l.map g).sum
  | [], _ => Int.le_refl _
  | x :: l, h => by
    have h1 := h x List.mem_cons_self
    have h2 := flat_sum (l := l) fun y hy => h y (List.mem_cons_of_mem _ hy)
    rw [List.flatMap_cons, List.length_append, List.map_cons, List.sum_cons]
    push_cast
    omega
theorem found_len {sz vals : List Int} (ok : SzOk sz) : ((foundL (contents sz) vals).length : Int) ≤ sz.prod * U sz := by
  have step : ∀ o ∈ contents sz, (((contents sz).flatMap fun n => tornF (contents sz) vals o n).length : Int) ≤ U sz := by
    intro o ho
    rw [← due_sum sz o ho]
    refine flat_sum fun n hn => ?_
    have e1 : (tornF (contents sz) vals o n).length ≤ (mixL o n).length := by
      unfold tornF
      rw [List.length_map]
      exact List.length_filter_le _ _
    have e2 : (mixL o n).length ≤ (amix o n o.length).length := by
      unfold mixL
      rw [(sortBy_perm _ _).length_eq]
      exact List.length_filter_le _ _
    have e3 := amix_due o n o.length
    rw [contents_mem_len ho] at e2 e3
    omega
  have h := flat_sum (f := fun o => (contents sz).flatMap fun n => tornF (contents sz) vals o n) (g := fun _ => U sz) step
  rw [sum_const, contents_len sz fun s hs => by have := ok.one s hs; omega] at h
  exact h
def P2 (sz : List Int) : Int := (sz.map fun s => s * (2 * s - 1)).prod
theorem P2_eq : ∀ sz : List Int, sz.prod * U sz = P2 sz
  | [] => rfl
  | s :: r => by
    have ih := P2_eq r
    unfold P2 U at ih ⊢
    rw [List.map_cons, List.map_cons, List.prod_cons, List.prod_cons, List.prod_cons, ← ih]
    ac_rfl
def G : Nat → Int → Int
  | 0, _ => 1
  | k + 1, r => ([2, 3, 4, 5, 6, 7, 8, 9].map fun s => if s ≤ r then s * (2 * s - 1) * G k (r / s) else 0).foldl max 0
theorem foldl_max_ge : ∀ (l : List Int) (a : Int), a ≤ l.foldl max a ∧ ∀ x ∈ l, x ≤ l.foldl max a
  | [], a => ⟨Int.le_refl _, fun x h => by cases h⟩
  | y :: l, a => by
    obtain ⟨h1, h2⟩ := foldl_max_ge l (max a y)
    rw [List.foldl_cons]
    refine ⟨by omega, fun x h => ?_⟩
    rcases List.mem_cons.mp h with e | e
    · subst e
      omega
    · exact h2 x e
theorem P2_pos : ∀ {sz : List Int}, (∀ s ∈ sz, 2 ≤ s ∧ s ≤ 9) → 0 ≤ P2 sz
  | [], _ => by show (0 : Int) ≤ 1; omega
  | s :: r, h => by
    have h1 := h s List.mem_cons_self
    have h2 := P2_pos (sz := r) fun x hx => h x (List.mem_cons_of_mem _ hx)
    show 0 ≤ ((s :: r).map _).prod
    rw [List.map_cons, List.prod_cons]
    exact Int.mul_nonneg (Int.mul_nonneg (by omega) (by omega)) h2
theorem P2_le : ∀ (sz : List Int) (r : Int), (∀ s ∈ sz, 2 ≤ s ∧ s ≤ 9) → sz.prod ≤ r → P2 sz ≤ G sz.length r
  | [], _, _, _ => Int.le_refl _
  | s :: t, r, h, hp => by
    have h1 := h s List.mem_cons_self
    have ht : ∀ x ∈ t, 2 ≤ x ∧ x ≤ 9 := fun x hx => h x (List.mem_cons_of_mem _ hx)
    have pp : 1 ≤ t.prod := prod_pos fun x hx => by have := ht x hx; omega
    rw [List.prod_cons] at hp
    have hs : s ≤ r := by
      have := Int.mul_le_mul_of_nonneg_left pp (show 0 ≤ s by omega)
      omega
    have hq : t.prod ≤ r / s := by
      rw [Int.le_ediv_iff_mul_le (by omega), Int.mul_comm]
      exact hp
    have ih := P2_le t (r / s) ht hq
    have e : P2 (s :: t) = s * (2 * s - 1) * P2 t := by
      unfold P2
      rw [List.map_cons, List.prod_cons]
    rw [e]
    refine Int.le_trans (Int.mul_le_mul_of_nonneg_left ih (Int.mul_nonneg (by omega) (by omega))) ?_
    refine (foldl_max_ge _ 0).2 _ (List.mem_map.mpr ⟨s, ?_, if_pos hs⟩)
    simp only [List.mem_cons, List.not_mem_nil, or_false]
    omega
theorem G_ok : ∀ k : Fin 7, G k.val 128 * (9 * (k.val : Int) + 16) + 2 ≤ 16777216 := by decide +kernel
/-! ### the text of the tears -/
theorem text_len (ts : List Str) : (tupleText ts).length ≤ piled ts + 2 := by
  unfold tupleText
  rw [strLen_append, strLen_append]
  have e1 : ((("(" : String) : Str)).length = 1 := rfl
  have e3 : (((if ts.length == 1 then ",)" else ")" : String) : Str)).length ≤ 2 := by split <;> decide
  rw [e1]
  by_cases h : ts = []
  · subst h
    decide
  · have := join_length_add ts h
    omega
theorem digit_len {i : Int} (h0 : 0 ≤ i) (h9 : i ≤ 9) : ((toString i : String) : Str).length = 1 := by
  have : i = 0 ∨ i = 1 ∨ i = 2 ∨ i = 3 ∨ i = 4 ∨ i = 5 ∨ i = 6 ∨ i = 7 ∨ i = 8 ∨ i = 9 := by omega
  rcases this with rfl | rfl | rfl | rfl | rfl | rfl | rfl | rfl | rfl | rfl <;> decide
theorem shownAll_map : ∀ l : List PyData, PyData.shownAll l = l.map PyData.shown
  | [] => by rw [PyData.shownAll]; rfl
  | x :: l => by rw [PyData.shownAll, shownAll_map l]; rfl
theorem piled_le {α : Type} {f : α → Str} {m : Nat} : ∀ {l : List α}, (∀ x ∈ l, (f x).length ≤ m) → piled (l.map f) ≤ l.length * (m + 2)
  | [], _ => by simp [piled]
  | x :: l, h => by
    have h1 := h x List.mem_cons_self
    have h2 := piled_le (l := l) fun y hy => h y (List.mem_cons_of_mem _ hy)
    rw [List.map_cons, piled_cons, List.length_cons, Nat.succ_mul]
    omega
theorem shown_tup (xs : List D) : (D.tup xs).py.shown = tupleText (xs.map fun d => d.py.shown) := by
  simp only [D.py, PyData.shown]
  rw [shownAll_map, pys_map, List.map_map]
  rfl
theorem shown_tI {c : List Int} (h : ∀ i ∈ c, 0 ≤ i ∧ i ≤ 9) : (tI c).py.shown.length ≤ c.length * 3 + 2 := by
  rw [shown_tup, List.map_map]
  refine Nat.le_trans (text_len _) (Nat.add_le_add_right (piled_le fun i hi => ?_) 2)
  show ((D.int i).py.shown).length ≤ 1
  simp only [D.py, PyData.shown]
  exact Nat.le_of_eq (digit_len (h i hi).1 (h i hi).2)
theorem shown_tT {t : List (List Int)} {m : Nat} (h : ∀ c ∈ t, c.length ≤ m ∧ ∀ i ∈ c, 0 ≤ i ∧ i ≤ 9) : (tT t).py.shown.length ≤ t.length * (m * 3 + 4) + 2 := by
  rw [shown_tup, List.map_map]
  refine Nat.le_trans (text_len _) (Nat.add_le_add_right (piled_le (m := m * 3 + 2) fun c hc => ?_) 2)
  refine Nat.le_trans (shown_tI (h c hc).2) ?_
  have := (h c hc).1
  omega
theorem showAll : ∀ l : List D, (∀ d ∈ l, d.py.showable = true) → PyData.showableAll (pys l) = true
  | [], _ => by simp [pys, PyData.showableAll]
  | d :: l, h => by
    rw [pys, PyData.showableAll, h d List.mem_cons_self, showAll l fun e he => h e (List.mem_cons_of_mem _ he)]
    rfl
theorem show_tI {c : List Int} (h : ∀ i ∈ c, 0 ≤ i ∧ i ≤ 9) : (tI c).py.showable = true := by
  simp only [D.py, PyData.showable]
  refine showAll _ fun d hd => ?_
  obtain ⟨i, hi, rfl⟩ := List.mem_map.mp hd
  obtain ⟨h0, h9⟩ := h i hi
  simp only [D.py, PyData.showable]
  have : i = 0 ∨ i = 1 ∨ i = 2 ∨ i = 3 ∨ i = 4 ∨ i = 5 ∨ i = 6 ∨ i = 7 ∨ i = 8 ∨ i = 9 := by omega
  rcases this with rfl | rfl | rfl | rfl | rfl | rfl | rfl | rfl | rfl | rfl <;> decide
theorem show_tT {t : List (List Int)} (h : ∀ c ∈ t, ∀ i ∈ c, 0 ≤ i ∧ i ≤ 9) : (tT t).py.showable = true := by
  simp only [D.py, PyData.showable]
  refine showAll _ fun d hd => ?_
  obtain ⟨c, hc, rfl⟩ := List.mem_map.mp hd
  exact show_tI (h c hc)
/-- the answer can be shown -/
theorem told_ok {sz vals : List Int} (ok : SzOk sz) {M : Mm} {Q : DK} (q : Q (.str (D.tup ((sortBy tT (foundL (contents sz) vals)).map tT)).py.shown) M) : kRepr (.tup ((sortBy tT (foundL (contents sz) vals)).map tT)) M Q := by
  have small : ∀ c ∈ contents sz, c.length ≤ sz.length ∧ ∀ i ∈ c, 0 ≤ i ∧ i ≤ 9 := by
    intro c hc
    obtain ⟨h1, h2⟩ := contents_mem.mp hc
    refine ⟨by omega, fun i hi => ?_⟩
    obtain ⟨j, hj, rfl⟩ := List.getElem_of_mem hi
    have := h2 j (by omega)
    rw [getD_get hj, getD_get (by omega)] at this
    have := ok.b (sz[j]'(by omega)) (List.getElem_mem _)
    omega
  have each : ∀ t ∈ sortBy tT (foundL (contents sz) vals), t.length = 3 ∧ ∀ c ∈ t, c ∈ contents sz := by
    intro t ht
    rw [(sortBy_perm _ _).mem_iff] at ht
    obtain ⟨o, ho, h1⟩ := List.mem_flatMap.mp ht
    obtain ⟨w, hw, h2⟩ := List.mem_flatMap.mp h1
    obtain ⟨c, hc, rfl⟩ := List.mem_map.mp h2
    have hc' := mixL_in ho hw (List.mem_filter.mp hc).1
    refine ⟨rfl, fun x hx => ?_⟩
    simp only [List.mem_cons, List.not_mem_nil, or_false] at hx
    rcases hx with rfl | rfl | rfl
    · exact ho
    · exact hw
    · exact hc'
  refine ⟨?_, ?_, ?_, q⟩
  · show (((sortBy tT (foundL (contents sz) vals)).map tT).all (D.wf 59)) = true
    rw [List.all_map, List.all_eq_true]
    intro t _
    exact wf_tT 57 t
  · simp only [D.py, PyData.showable]
    refine showAll _ fun d hd => ?_
    obtain ⟨t, ht, rfl⟩ := List.mem_map.mp hd
    exact show_tT fun c hc => (small c ((each t ht).2 c hc)).2
  · rw [shown_tup, List.map_map]
    refine Nat.le_trans (text_len _) ?_
    have p := piled_le (f := (fun d : D => d.py.shown) ∘ tT) (m := 3 * (sz.length * 3 + 4) + 2) (l := sortBy tT (foundL (contents sz) vals)) fun t ht => by
      have := shown_tT (t := t) (m := sz.length) fun c hc => small c ((each t ht).2 c hc)
      rw [(each t ht).1] at this
      exact this
    rw [(sortBy_perm _ _).length_eq] at p
    have fl := found_len (vals := vals) ok
    rw [P2_eq] at fl
    have pl := P2_le sz 128 ok.b ok.p
    have gk := G_ok ⟨sz.length, by have := ok.l6; omega⟩
    have gk' : G sz.length 128 * (9 * (sz.length : Int) + 16) + 2 ≤ 16777216 := gk
    have e2 : sizeLine = 16777216 := rfl
    have m1 : ((foundL (contents sz) vals).length : Int) * (9 * (sz.length : Int) + 16) ≤ G sz.length 128 * (9 * (sz.length : Int) + 16) := Int.mul_le_mul_of_nonneg_right (by omega) (by omega)
    have e3 : 3 * (sz.length * 3 + 4) + 2 + 2 = 9 * sz.length + 16 := by omega
    rw [e3] at p
    have m2 : (((foundL (contents sz) vals).length * (9 * sz.length + 16) : Nat) : Int) = ((foundL (contents sz) vals).length : Int) * (9 * (sz.length : Int) + 16) := by push_cast; rfl
    omega
end K68

set_option Elab.async false
set_option linter.all false
set_option maxRecDepth 100000
set_option maxHeartbeats 4000000
namespace K68
open PySem PySem.Spec L2 DL

local macro_rules | `(tactic| law_fin) => `(tactic| try simp only [zSeq, zSet, zIf, zRet, zSkip, zPar, zPar3, zExpr, zAsg, zNo, zBreak, zCont, xOp, xV, xC, xTst, xAnd, xOr, xNot, xIf, xChain, xB, xCall, c1, c2, o2, aCons, aNil, xTup, xLst, slot, put, oSub, oMul, oFdiv, oMod, oPow, oLe, oGt, oGe, xYes, yN, yTup, yCons, yNil, wipeD, List.set_cons_succ, List.set_cons_zero, kInt, kAbs, kMax2, kMin2, xNeg,
  kLen_tup, List.length_map, if_true, if_false, Bool.false_eq_true, kLen_lst, oEq_int, oNe_int, oEq_tI, oNe_tI, oAdd_int, oAdd_tup])

/-! ### law -/
def toldD (sz v : List Int) : D := .tup ((sortBy tT (foundL (contents sz) v)).map tT)
theorem wf_told (sz v : List Int) : (toldD sz v).wf 60 = true := by
  show (((sortBy tT (foundL (contents sz) v)).map tT).all (D.wf 59)) = true
  rw [List.all_map, List.all_eq_true]
  intro t _
  exact wf_tT 57 t
theorem oNe_same {d : D} {M : Mm} {Q : DK} (w : d.wf 60 = true) (q : Q (.bl false) M) : oNe d d M Q := ⟨w, w, by rw [eqB_refl 60 d w]; exact q⟩
theorem q_law (ns : List Int) : b_law p__law_pool p__law_pair p__law_is_mixed p_mixtures p__law_take p__law_sizes p__law_table p__law_tears p__law_near p_blind_tears { nx := fun _ _ => False, rt := fun d _ => d = .bl true } (enter 15 [.fz (ns.map D.int)]) fun _ => none := by
  show b_law _ _ _ _ _ _ _ _ _ _ _ [some (.fz (ns.map D.int)), none, none, none, none, none, none, none, none, none, none, none, none, none, none] _
  obtain ⟨M0, hM0⟩ : ∃ M0 : Mm, M0 = fun _ => none := ⟨_, rfl⟩
  rw [← hM0]
  unfold b_law
  law_fin
  refine ⟨ns, rfl, fun p g1 np P1 => ?_⟩
  refine ⟨p, 1, rfl, by rw [Mm.upd_same]; exact P1, by omega, by omega, fun o n g2 t2 hl h1 h8 t21 t22 P2 => ?_⟩
  rw [Mm.upd_upd]
  refine oIx_lst (k := 0) rfl ?_
  refine oIx_lst (k := 1) rfl ?_
  have good : ∀ (o n : List Int) (M : Mm) (Q : DK), o.length = n.length → 1 ≤ o.length → o.length ≤ 8 → Q (.bl true) M → p_mixtures [tI o, tI n] M fun d M1 => p__law_is_mixed [tI o, tI n, d] M1 Q := by
    intro o n M Q hl h1 h8 q
    refine ⟨o, n, rfl, hl, h1, by omega, ?_⟩
    have := mixL_len o n
    have : 2 ^ o.length ≤ 2 ^ 8 := Nat.pow_le_pow_right (by omega) h8
    exact ⟨o, n, mixL o n, rfl, hl, by omega, by omega, mixed_ok hl, q⟩
  refine good o n _ _ hl h1 h8 ?_
  simp only [Bool.not_true, Bool.false_eq_true, if_false]
  refine good n o _ _ hl.symm (by omega) (by omega) ?_
  simp only [Bool.not_true, Bool.false_eq_true, if_false]
  refine ⟨p, 40, t2, rfl, by rw [Mm.upd_same]; exact P2, by omega, by omega, by omega, by omega, fun rare g3 r0 r1 P3 => ?_⟩
  rw [Mm.upd_upd]
  -- behind the sizes
  have rest : ∀ (most : Int), 2 ≤ most → most ≤ 128 → p__law_sizes [.ptr p, .int most] (M0.upd p g3) fun d M1 =>
      zSeq (zFor (iSeq (xV 7)) (yN 8) (zSet 6 (xOp oMul (xV 6) (xV 8)))) (
    zSeq (zSet 9 (xCall p__law_table (aCons (xV 1) (aCons (xV 7) (aCons (xV 6) (aNil)))))) (
    zSeq (zPar 10 11 (aCons (xCall p__law_near (aCons (xV 1) (aCons (xV 9) (aNil)))) (aCons (xCall p__law_tears (aCons (xV 7) (aCons (xV 9) (aNil)))) (aNil)))) (
    zSeq (zSet 12 (xLstM (aCons (xTup (aCons (xV 9) (aCons (xV 11) (aNil)))) (aNil)))) (
    zSeq (zIf (xTst (xOp oLe (xV 6) (xC (.int 36)))) (zExpr (xExt (xV 12) (xLst (aCons (xTup (aCons (xV 10) (aCons (xCall p__law_tears (aCons (xV 7) (aCons (xV 10) (aNil)))) (aNil)))) (aCons (xTup (aCons (xV 9) (aCons (xV 11) (aNil)))) (aNil)))))) (zSkip)) (
    zSeq (zFor (iSeq (xV 12)) (yN 13) (zSeq (zSet 14 (xCall p_blind_tears (aCons (xV 7) (aCons (xOp oIx (xV 13) (xC (.int 0))) (aNil))))) (
    zIf (xOr (xTst (xOp oNe (xV 14) (xOp oIx (xV 13) (xC (.int 1))))) (xTst (xOp oNeS (xB (c1 kRepr) (aCons (xV 14) (aNil))) (xB (c1 kRepr) (aCons (xOp oIx (xV 13) (xC (.int 1))) (aNil)))))) (zRet (xC (.bl false))) (zSkip)))) (
    zRet (xCall p__law_is_mixed (aCons (xV 3) (aCons (xV 4) (aCons (xCall p_mixtures (aCons (xV 3) (aCons (xV 4) (aNil)))) (aNil)))))))))))
      { nx := fun _ _ => False, rt := fun d _ => d = .bl true } [some (.fz (ns.map D.int)), some (.ptr p), some (.lst [tI o, tI n]), some (tI o), some (tI n), some (.int rare), some (.int 1), some d, none, none, none, none, none, none, none] M1 := by
    intro most m2 m128
    refine ⟨p, t2 + 1, most, rfl, by rw [Mm.upd_same]; exact P3, by omega, by omega, m2, m128, fun sz g4 t4 ok hp t41 t42 P4 => ?_⟩
    rw [Mm.upd_upd]
    law_fin
    refine zFor_seq_I sz (fun K k => k) (fun i σ N => N = M0.upd p g4 ∧ ∃ u, σ = [some (.fz (ns.map D.int)), some (.ptr p), some (.lst [tI o, tI n]), some (tI o), some (tI n), some (.int rare), some (.int (sz.take i).prod), some (tI sz), u, none, none, none, none, none, none]) ⟨rfl, none, by simp⟩ ?_ ?_
    · rintro i s σ N hs ⟨rfl, u, rfl⟩
      have b := ok.b s (List.mem_of_getElem? hs)
      law_fin
      refine ⟨Or.inr (by omega), by trivial, some (.int s), ?_⟩
      rw [take_succ' hs, prod_app]
      simp
    rintro σ N ⟨rfl, u, rfl⟩
    rw [List.take_length]
    have pp : 1 ≤ sz.prod := prod_pos ok.one
    obtain ⟨m, hm⟩ : ∃ m : Nat, sz.prod = (m : Int) := ⟨sz.prod.toNat, by omega⟩
    rw [hm]
    law_fin
    refine ⟨p, t4, sz, m, rfl, by rw [Mm.upd_same]; exact P4, by omega, by omega, ok, by omega, by have := ok.p; omega, fun tab g5 t5 hl5 t51 t52 P5 => ?_⟩
    rw [Mm.upd_upd]
    refine ⟨p, t5, tab, rfl, by rw [Mm.upd_same]; exact P5, by omega, by omega, by omega, by have := ok.p; omega, fun near g6 t6 hl6 t61 t62 P6 => ?_⟩
    rw [Mm.upd_upd]
    have vt : (tab.length : Int) = sz.prod := by omega
    have vn : (near.length : Int) = sz.prod := by omega
    have tears : ∀ (v : List Int) (M : Mm) (Q : DK), (v.length : Int) = sz.prod → Q (toldD sz v) M → p__law_tears [tI sz, tI v] M Q := by
      intro v M Q hv q
      refine ⟨sz, v, rfl, ok, hv, ?_⟩
      rw [tears_same ok hv]
      exact q
    refine tears tab _ _ vt ?_
    unfold xLstM
    law_fin
    refine ⟨by simp [sizeLine], by simp [sizeLine], fun pt npt => ?_⟩
    -- the turns
    have turns : ∀ (vs : List (List Int)) (N : Mm), (∀ v ∈ vs, (v.length : Int) = sz.prod) → N pt = some (.lst (vs.map fun v => .tup [tI v, toldD sz v])) →
        zSeq (zFor (iSeq (xV 12)) (yN 13) (zSeq (zSet 14 (xCall p_blind_tears (aCons (xV 7) (aCons (xOp oIx (xV 13) (xC (.int 0))) (aNil))))) (
    zIf (xOr (xTst (xOp oNe (xV 14) (xOp oIx (xV 13) (xC (.int 1))))) (xTst (xOp oNeS (xB (c1 kRepr) (aCons (xV 14) (aNil))) (xB (c1 kRepr) (aCons (xOp oIx (xV 13) (xC (.int 1))) (aNil)))))) (zRet (xC (.bl false))) (zSkip)))) (
    zRet (xCall p__law_is_mixed (aCons (xV 3) (aCons (xV 4) (aCons (xCall p_mixtures (aCons (xV 3) (aCons (xV 4) (aNil)))) (aNil))))))
      { nx := fun _ _ => False, rt := fun d _ => d = .bl true } [some (.fz (ns.map D.int)), some (.ptr p), some (.lst [tI o, tI n]), some (tI o), some (tI n), some (.int rare), some (.int m), some (tI sz), u, some (tI tab), some (tI near), some (toldD sz tab), some (.ptr pt), none, none] N := by
      intro vs N hvs hN
      law_fin
      have ld : listD (.ptr pt) N = some (vs.map fun v => D.tup [tI v, toldD sz v]) := by
        unfold listD
        simp only [hN]
      refine for_listD (.ptr pt) _ (fun K k => k) ld (fun i σ N' => N' = N ∧ ∃ x y, σ = [some (.fz (ns.map D.int)), some (.ptr p), some (.lst [tI o, tI n]), some (tI o), some (tI n), some (.int rare), some (.int m), some (tI sz), u, some (tI tab), some (tI near), some (toldD sz tab), some (.ptr pt), x, y]) ⟨rfl, none, none, rfl⟩ (fun i σ N' z => by rw [z.1]; exact ld) ?_ ?_
      · rintro i x σ N' hx ⟨rfl, x', y', rfl⟩
        rw [List.getElem?_map] at hx
        obtain ⟨v, hv, rfl⟩ := Option.map_eq_some_iff.mp hx
        have hv' := hvs v (List.mem_of_getElem? hv)
        law_fin
        refine oIx_tup (k := 0) rfl ?_
        refine ⟨sz, v, rfl, ok, hv', ?_⟩
        refine oIx_tup (k := 1) rfl ?_
        refine oNe_same (wf_told sz v) ?_
        simp only [Bool.false_eq_true, if_false]
        refine told_ok ok ?_
        refine oIx_tup (k := 1) rfl ?_
        refine told_ok ok ?_
        show (if (!decide _) = true then _ else _)
        rw [decide_eq_true rfl]
        exact ⟨rfl, _, _, rfl⟩
      · rintro σ N' ⟨rfl, x', y', rfl⟩
        law_fin
        exact good o n _ _ hl h1 h8 rfl
    by_cases h36 : (m : Int) ≤ 36
    · simp only [decide_eq_true h36, if_true]
      unfold xExt
      law_fin
      refine ⟨⟨_, Mm.upd_same⟩, ?_⟩
      refine tears near _ _ vn ?_
      refine ⟨by simp [sizeLine], by simp [sizeLine], by simp [sizeLine], _, _, Mm.upd_same, rfl, by simp [sizeLine], ?_⟩
      refine turns [tab, near, tab] _ ?_ ?_
      · intro v hv
        simp only [List.mem_cons, List.not_mem_nil, or_false] at hv
        rcases hv with rfl | rfl | rfl
        · exact vt
        · exact vn
        · exact vt
      · rw [Mm.upd_same]
        rfl
    · simp only [decide_eq_false h36, Bool.false_eq_true, if_false]
      refine turns [tab] _ ?_ ?_
      · intro v hv
        rw [List.mem_singleton.mp hv]
        exact vt
      · rw [Mm.upd_same]
        rfl
  show oEq (.int rare) (.int 0) _ _
  rw [oEq_int]
  by_cases e0 : rare = 0
  · simp only [decide_eq_true e0, if_true]
    exact rest 128 (by omega) (by omega)
  · simp only [decide_eq_false e0, Bool.false_eq_true, if_false]
    rw [oLtX_int]
    by_cases e8 : rare < 8
    · simp only [decide_eq_true e8, if_true]
      exact rest 36 (by omega) (by omega)
    · simp only [decide_eq_false e8, Bool.false_eq_true, if_false]
      exact rest 12 (by omega) (by omega)
end K68

set_option Elab.async false
set_option linter.all false
set_option maxRecDepth 100000
set_option maxHeartbeats 4000000
namespace K68
open PySem PySem.Spec L2 DL
/-! ### every def keeps its promise -/
section
variable {P : Program} {w : World} {K : PySem.W.Frag} {mg : Str → Option Value} {base : Heap} (T : Tb K mg)
include T
theorem t_all_mixtures : Ok P w K mg base 1 T.a_all_mixtures T.fd_all_mixtures ["old", "new"] p_all_mixtures := def_ok T.F_all_mixtures sc_all_mixtures rfl (fun cdv A outer s H E hr => d_all_mixtures T  hr) q_all_mixtures
theorem t_are_sizes : Ok P w K mg base 1 T.a_are_sizes T.fd_are_sizes ["sizes"] p_are_sizes := def_ok T.F_are_sizes sc_are_sizes rfl (fun cdv A outer s H E hr => d_are_sizes T  hr) q_are_sizes
theorem t_contents_of : Ok P w K mg base 1 T.a_contents_of T.fd_contents_of ["sizes"] p_contents_of := def_ok T.F_contents_of sc_contents_of rfl (fun cdv A outer s H E hr => d_contents_of T  hr) q_contents_of
theorem t__law_pool : Ok P w K mg base 1 T.a__law_pool T.fd__law_pool ["script"] p__law_pool := def_ok T.F__law_pool sc__law_pool rfl (fun cdv A outer s H E hr => d__law_pool T  hr) q__law_pool
theorem t__law_take : Ok P w K mg base 1 T.a__law_take T.fd__law_take ["pool", "many"] p__law_take := def_ok T.F__law_take sc__law_take rfl (fun cdv A outer s H E hr => d__law_take T  hr) q__law_take
theorem t__law_set : Ok P w K mg base 1 T.a__law_set T.fd__law_set ["rows"] p__law_set := def_ok T.F__law_set sc__law_set rfl (fun cdv A outer s H E hr => d__law_set T  hr) q__law_set
theorem t__law_is_mixed : Ok P w K mg base 1 T.a__law_is_mixed T.fd__law_is_mixed ["old", "new", "told"] p__law_is_mixed := def_ok T.F__law_is_mixed sc__law_is_mixed rfl (fun cdv A outer s H E hr => d__law_is_mixed T  hr) q__law_is_mixed
theorem t__law_content : Ok P w K mg base 1 T.a__law_content T.fd__law_content ["sizes", "number"] p__law_content := def_ok T.F__law_content sc__law_content rfl (fun cdv A outer s H E hr => d__law_content T  hr) q__law_content
theorem t__law_news : Ok P w K mg base 1 T.a__law_news T.fd__law_news ["sizes", "content", "old"] p__law_news := def_ok T.F__law_news sc__law_news rfl (fun cdv A outer s H E hr => d__law_news T  hr) q__law_news
theorem t_mixtures : Ok P w K mg base 2 T.a_mixtures T.fd_mixtures ["old", "new"] p_mixtures := def_ok T.F_mixtures sc_mixtures rfl (fun cdv A outer s H E hr => d_mixtures T (t_all_mixtures T) hr) q_mixtures
theorem t__law_pair : Ok P w K mg base 2 T.a__law_pair T.fd__law_pair ["pool"] p__law_pair := def_ok T.F__law_pair sc__law_pair rfl (fun cdv A outer s H E hr => d__law_pair T (t__law_take T) hr) q__law_pair
theorem t__law_sizes : Ok P w K mg base 2 T.a__law_sizes T.fd__law_sizes ["pool", "most"] p__law_sizes := def_ok T.F__law_sizes sc__law_sizes rfl (fun cdv A outer s H E hr => d__law_sizes T (t__law_take T) hr) q__law_sizes
theorem t__law_far_table : Ok P w K mg base 2 T.a__law_far_table T.fd__law_far_table ["pool", "many"] p__law_far_table := def_ok T.F__law_far_table sc__law_far_table rfl (fun cdv A outer s H E hr => d__law_far_table T (t__law_take T) hr) q__law_far_table
theorem t__law_near : Ok P w K mg base 2 T.a__law_near T.fd__law_near ["pool", "values"] p__law_near := def_ok T.F__law_near sc__law_near rfl (fun cdv A outer s H E hr => d__law_near T (t__law_take T) hr) q__law_near
theorem t__law_tears : Ok P w K mg base 2 T.a__law_tears T.fd__law_tears ["sizes", "values"] p__law_tears := def_ok T.F__law_tears sc__law_tears rfl (fun cdv A outer s H E hr => d__law_tears T (t__law_content T) (t__law_news T) (t__law_set T) hr) q__law_tears
theorem t_blind_tears : Ok P w K mg base 3 T.a_blind_tears T.fd_blind_tears ["sizes", "values"] p_blind_tears := def_ok T.F_blind_tears sc_blind_tears rfl (fun cdv A outer s H E hr => d_blind_tears T (t_are_sizes T) (t_contents_of T) (t_mixtures T) hr) q_blind_tears
theorem t__law_table : Ok P w K mg base 3 T.a__law_table T.fd__law_table ["pool", "sizes", "many"] p__law_table := def_ok T.F__law_table sc__law_table rfl (fun cdv A outer s H E hr => d__law_table T (t__law_far_table T) (t__law_take T) (t__law_content T) hr) q__law_table
theorem t_law {s : Shared} {H : Hp} {cdv : Value} : JSs (cxOf CX0 P w K mg base ["script", "pool", "pair", "old", "new", "rare", "many", "sizes", "size", "table", "near", "due", "turns", "turn", "told"] "law" (defScope s_law) T.a_law cdv callerA [] s H E0).nox (defBody s_law) (b_law p__law_pool p__law_pair p__law_is_mixed p_mixtures p__law_take p__law_sizes p__law_table p__law_tears p__law_near p_blind_tears) :=
  d_law T (t__law_pool T) (t__law_pair T) (t__law_is_mixed T) (t_mixtures T) (t__law_take T) (t__law_sizes T) (t__law_table T) (t__law_tears T) (t__law_near T) (t_blind_tears T) (L2.Room.deeper (show L2.Room 4 callerA from ⟨rfl, by decide, by decide⟩) _) rfl
end
/-! ### what the top has written -/
theorem all_mk {l : PySem.W.OpenLaw} {w : World} {K : PySem.W.Frag} {h : Heap} {mg : Str → Option Value} {fa f0 f1 f2 f3 f4 f5 f6 f7 f8 f9 f10 f11 f12 f13 f14 f15 f16 f17 : Addr} (X : K.In h) (G : h.Ns mainGlobals mg) (hfa : mg "law" = some (.ref fa))
    {od0 an0 od1 an1 od2 an2 od3 an3 od4 an4 od5 an5 od6 an6 od7 an7 od8 an8 od9 an9 od10 an10 od11 an11 od12 an12 od13 an13 od14 an14 od15 an15 od16 an16 od17 an17 : Option Addr} {sl0 sl1 sl2 sl3 sl4 sl5 sl6 sl7 sl8 sl9 sl10 sl11 sl12 sl13 sl14 sl15 sl16 sl17 : Array (Option Value)} {oc0 kV0 dc0 pm0 cd0 ct0 oc1 kV1 dc1 pm1 cd1 ct1 oc2 kV2 dc2 pm2 cd2 ct2 oc3 kV3 dc3 pm3 cd3 ct3 oc4 kV4 dc4 pm4 cd4 ct4 oc5 kV5 dc5 pm5 cd5 ct5 oc6 kV6 dc6 pm6 cd6 ct6 oc7 kV7 dc7 pm7 cd7 ct7 oc8 kV8 dc8 pm8 cd8 ct8 oc9 kV9 dc9 pm9 cd9 ct9 oc10 kV10 dc10 pm10 cd10 ct10 oc11 kV11 dc11 pm11 cd11 ct11 oc12 kV12 dc12 pm12 cd12 ct12 oc13 kV13 dc13 pm13 cd13 ct13 oc14 kV14 dc14 pm14 cd14 ct14 oc15 kV15 dc15 pm15 cd15 ct15 oc16 kV16 dc16 pm16 cd16 ct16 oc17 kV17 dc17 pm17 cd17 ct17 : Value}
    (a0 : PySem.W.nsIn K mainGlobals "all_mixtures" = some (some (.ref f0))) (l0 : K.lookup f0 = some ⟨oc0, od0, .func (PySem.W.fnOf "all_mixtures" "all_mixtures" (defArgs s_all_mixtures) (defBody s_all_mixtures) (defScope s_all_mixtures) .none kV0 dc0 pm0 an0 cd0 ct0), sl0⟩) (c0 : PySem.W.codeIn K cd0 "all_mixtures" = true) (k0 : PySem.W.keepIn K (.ref f0) = true)
    (a1 : PySem.W.nsIn K mainGlobals "mixtures" = some (some (.ref f1))) (l1 : K.lookup f1 = some ⟨oc1, od1, .func (PySem.W.fnOf "mixtures" "mixtures" (defArgs s_mixtures) (defBody s_mixtures) (defScope s_mixtures) .none kV1 dc1 pm1 an1 cd1 ct1), sl1⟩) (c1 : PySem.W.codeIn K cd1 "mixtures" = true) (k1 : PySem.W.keepIn K (.ref f1) = true)
    (a2 : PySem.W.nsIn K mainGlobals "are_sizes" = some (some (.ref f2))) (l2 : K.lookup f2 = some ⟨oc2, od2, .func (PySem.W.fnOf "are_sizes" "are_sizes" (defArgs s_are_sizes) (defBody s_are_sizes) (defScope s_are_sizes) .none kV2 dc2 pm2 an2 cd2 ct2), sl2⟩) (c2 : PySem.W.codeIn K cd2 "are_sizes" = true) (k2 : PySem.W.keepIn K (.ref f2) = true)
    (a3 : PySem.W.nsIn K mainGlobals "contents_of" = some (some (.ref f3))) (l3 : K.lookup f3 = some ⟨oc3, od3, .func (PySem.W.fnOf "contents_of" "contents_of" (defArgs s_contents_of) (defBody s_contents_of) (defScope s_contents_of) .none kV3 dc3 pm3 an3 cd3 ct3), sl3⟩) (c3 : PySem.W.codeIn K cd3 "contents_of" = true) (k3 : PySem.W.keepIn K (.ref f3) = true)
    (a4 : PySem.W.nsIn K mainGlobals "blind_tears" = some (some (.ref f4))) (l4 : K.lookup f4 = some ⟨oc4, od4, .func (PySem.W.fnOf "blind_tears" "blind_tears" (defArgs s_blind_tears) (defBody s_blind_tears) (defScope s_blind_tears) .none kV4 dc4 pm4 an4 cd4 ct4), sl4⟩) (c4 : PySem.W.codeIn K cd4 "blind_tears" = true) (k4 : PySem.W.keepIn K (.ref f4) = true)
    (a5 : PySem.W.nsIn K mainGlobals "_law_pool" = some (some (.ref f5))) (l5 : K.lookup f5 = some ⟨oc5, od5, .func (PySem.W.fnOf "_law_pool" "_law_pool" (defArgs s__law_pool) (defBody s__law_pool) (defScope s__law_pool) .none kV5 dc5 pm5 an5 cd5 ct5), sl5⟩) (c5 : PySem.W.codeIn K cd5 "_law_pool" = true) (k5 : PySem.W.keepIn K (.ref f5) = true)
    (a6 : PySem.W.nsIn K mainGlobals "_law_take" = some (some (.ref f6))) (l6 : K.lookup f6 = some ⟨oc6, od6, .func (PySem.W.fnOf "_law_take" "_law_take" (defArgs s__law_take) (defBody s__law_take) (defScope s__law_take) .none kV6 dc6 pm6 an6 cd6 ct6), sl6⟩) (c6 : PySem.W.codeIn K cd6 "_law_take" = true) (k6 : PySem.W.keepIn K (.ref f6) = true)
    (a7 : PySem.W.nsIn K mainGlobals "_law_set" = some (some (.ref f7))) (l7 : K.lookup f7 = some ⟨oc7, od7, .func (PySem.W.fnOf "_law_set" "_law_set" (defArgs s__law_set) (defBody s__law_set) (defScope s__law_set) .none kV7 dc7 pm7 an7 cd7 ct7), sl7⟩) (c7 : PySem.W.codeIn K cd7 "_law_set" = true) (k7 : PySem.W.keepIn K (.ref f7) = true)
    (a8 : PySem.W.nsIn K mainGlobals "_law_pair" = some (some (.ref f8))) (l8 : K.lookup f8 = some ⟨oc8, od8, .func (PySem.W.fnOf "_law_pair" "_law_pair" (defArgs s__law_pair) (defBody s__law_pair) (defScope s__law_pair) .none kV8 dc8 pm8 an8 cd8 ct8), sl8⟩) (c8 : PySem.W.codeIn K cd8 "_law_pair" = true) (k8 : PySem.W.keepIn K (.ref f8) = true)
    (a9 : PySem.W.nsIn K mainGlobals "_law_is_mixed" = some (some (.ref f9))) (l9 : K.lookup f9 = some ⟨oc9, od9, .func (PySem.W.fnOf "_law_is_mixed" "_law_is_mixed" (defArgs s__law_is_mixed) (defBody s__law_is_mixed) (defScope s__law_is_mixed) .none kV9 dc9 pm9 an9 cd9 ct9), sl9⟩) (c9 : PySem.W.codeIn K cd9 "_law_is_mixed" = true) (k9 : PySem.W.keepIn K (.ref f9) = true)
    (a10 : PySem.W.nsIn K mainGlobals "_law_sizes" = some (some (.ref f10))) (l10 : K.lookup f10 = some ⟨oc10, od10, .func (PySem.W.fnOf "_law_sizes" "_law_sizes" (defArgs s__law_sizes) (defBody s__law_sizes) (defScope s__law_sizes) .none kV10 dc10 pm10 an10 cd10 ct10), sl10⟩) (c10 : PySem.W.codeIn K cd10 "_law_sizes" = true) (k10 : PySem.W.keepIn K (.ref f10) = true)
    (a11 : PySem.W.nsIn K mainGlobals "_law_content" = some (some (.ref f11))) (l11 : K.lookup f11 = some ⟨oc11, od11, .func (PySem.W.fnOf "_law_content" "_law_content" (defArgs s__law_content) (defBody s__law_content) (defScope s__law_content) .none kV11 dc11 pm11 an11 cd11 ct11), sl11⟩) (c11 : PySem.W.codeIn K cd11 "_law_content" = true) (k11 : PySem.W.keepIn K (.ref f11) = true)
    (a12 : PySem.W.nsIn K mainGlobals "_law_far_table" = some (some (.ref f12))) (l12 : K.lookup f12 = some ⟨oc12, od12, .func (PySem.W.fnOf "_law_far_table" "_law_far_table" (defArgs s__law_far_table) (defBody s__law_far_table) (defScope s__law_far_table) .none kV12 dc12 pm12 an12 cd12 ct12), sl12⟩) (c12 : PySem.W.codeIn K cd12 "_law_far_table" = true) (k12 : PySem.W.keepIn K (.ref f12) = true)
    (a13 : PySem.W.nsIn K mainGlobals "_law_table" = some (some (.ref f13))) (l13 : K.lookup f13 = some ⟨oc13, od13, .func (PySem.W.fnOf "_law_table" "_law_table" (defArgs s__law_table) (defBody s__law_table) (defScope s__law_table) .none kV13 dc13 pm13 an13 cd13 ct13), sl13⟩) (c13 : PySem.W.codeIn K cd13 "_law_table" = true) (k13 : PySem.W.keepIn K (.ref f13) = true)
    (a14 : PySem.W.nsIn K mainGlobals "_law_near" = some (some (.ref f14))) (l14 : K.lookup f14 = some ⟨oc14, od14, .func (PySem.W.fnOf "_law_near" "_law_near" (defArgs s__law_near) (defBody s__law_near) (defScope s__law_near) .none kV14 dc14 pm14 an14 cd14 ct14), sl14⟩) (c14 : PySem.W.codeIn K cd14 "_law_near" = true) (k14 : PySem.W.keepIn K (.ref f14) = true)
    (a15 : PySem.W.nsIn K mainGlobals "_law_news" = some (some (.ref f15))) (l15 : K.lookup f15 = some ⟨oc15, od15, .func (PySem.W.fnOf "_law_news" "_law_news" (defArgs s__law_news) (defBody s__law_news) (defScope s__law_news) .none kV15 dc15 pm15 an15 cd15 ct15), sl15⟩) (c15 : PySem.W.codeIn K cd15 "_law_news" = true) (k15 : PySem.W.keepIn K (.ref f15) = true)
    (a16 : PySem.W.nsIn K mainGlobals "_law_tears" = some (some (.ref f16))) (l16 : K.lookup f16 = some ⟨oc16, od16, .func (PySem.W.fnOf "_law_tears" "_law_tears" (defArgs s__law_tears) (defBody s__law_tears) (defScope s__law_tears) .none kV16 dc16 pm16 an16 cd16 ct16), sl16⟩) (c16 : PySem.W.codeIn K cd16 "_law_tears" = true) (k16 : PySem.W.keepIn K (.ref f16) = true)
    (a17 : PySem.W.nsIn K mainGlobals "law" = some (some (.ref f17))) (l17 : K.lookup f17 = some ⟨oc17, od17, .func (PySem.W.fnOf "law" "law" (defArgs s_law) (defBody s_law) (defScope s_law) .none kV17 dc17 pm17 an17 cd17 ct17), sl17⟩) (c17 : PySem.W.codeIn K cd17 "law" = true) (k17 : PySem.W.keepIn K (.ref f17) = true)
    (z0 : PySem.W.nsIn K mainGlobals "abs" = some none)
    (z1 : PySem.W.nsIn K mainGlobals "bool" = some none)
    (z2 : PySem.W.nsIn K mainGlobals "enumerate" = some none)
    (z3 : PySem.W.nsIn K mainGlobals "int" = some none)
    (z4 : PySem.W.nsIn K mainGlobals "isinstance" = some none)
    (z5 : PySem.W.nsIn K mainGlobals "len" = some none)
    (z6 : PySem.W.nsIn K mainGlobals "list" = some none)
    (z7 : PySem.W.nsIn K mainGlobals "max" = some none)
    (z8 : PySem.W.nsIn K mainGlobals "min" = some none)
    (z9 : PySem.W.nsIn K mainGlobals "range" = some none)
    (z10 : PySem.W.nsIn K mainGlobals "repr" = some none)
    (z11 : PySem.W.nsIn K mainGlobals "sorted" = some none)
    (z12 : PySem.W.nsIn K mainGlobals "sum" = some none)
    (z13 : PySem.W.nsIn K mainGlobals "tuple" = some none) {u0 : Tok} (v0 : PySem.W.nsIn K mainGlobals "CONTENTS" = some (some (.int 600 u0))) :
    ∃ fd : FuncData, Fun K "law" "law" s_law fa fd ∧ (∀ (s : Shared) (u : Value), BindsTo s fd ⟨[u], []⟩ [("script", u)]) ∧ ∀ base : Heap, K.In base → base.Ns mainGlobals mg → ∀ (s : Shared) (H : Hp) (cdv : Value), JSs (cxOf CX0 l.prog w K mg base ["script", "pool", "pair", "old", "new", "rare", "many", "sizes", "size", "table", "near", "due", "turns", "turn", "told"] "law" (defScope s_law) fa cdv callerA [] s H E0).nox (defBody s_law) (b_law p__law_pool p__law_pair p__law_is_mixed p_mixtures p__law_take p__law_sizes p__law_table p__law_tears p__law_near p_blind_tears) := by
  have e := hfa.symm.trans (PySem.W.mg_of X G a17)
  cases e
  have F0 := fun_mk (st := s_all_mixtures) l0 c0 k0
  have B0 := F0.binds (ps := ["old", "new"]) fun _ _ _ _ _ _ us hl => match us, hl with | [_, _], _ => rfl
  have F1 := fun_mk (st := s_mixtures) l1 c1 k1
  have B1 := F1.binds (ps := ["old", "new"]) fun _ _ _ _ _ _ us hl => match us, hl with | [_, _], _ => rfl
  have F2 := fun_mk (st := s_are_sizes) l2 c2 k2
  have B2 := F2.binds (ps := ["sizes"]) fun _ _ _ _ _ _ us hl => match us, hl with | [_], _ => rfl
  have F3 := fun_mk (st := s_contents_of) l3 c3 k3
  have B3 := F3.binds (ps := ["sizes"]) fun _ _ _ _ _ _ us hl => match us, hl with | [_], _ => rfl
  have F4 := fun_mk (st := s_blind_tears) l4 c4 k4
  have B4 := F4.binds (ps := ["sizes", "values"]) fun _ _ _ _ _ _ us hl => match us, hl with | [_, _], _ => rfl
  have F5 := fun_mk (st := s__law_pool) l5 c5 k5
  have B5 := F5.binds (ps := ["script"]) fun _ _ _ _ _ _ us hl => match us, hl with | [_], _ => rfl
  have F6 := fun_mk (st := s__law_take) l6 c6 k6
  have B6 := F6.binds (ps := ["pool", "many"]) fun _ _ _ _ _ _ us hl => match us, hl with | [_, _], _ => rfl
  have F7 := fun_mk (st := s__law_set) l7 c7 k7
  have B7 := F7.binds (ps := ["rows"]) fun _ _ _ _ _ _ us hl => match us, hl with | [_], _ => rfl
  have F8 := fun_mk (st := s__law_pair) l8 c8 k8
  have B8 := F8.binds (ps := ["pool"]) fun _ _ _ _ _ _ us hl => match us, hl with | [_], _ => rfl
  have F9 := fun_mk (st := s__law_is_mixed) l9 c9 k9
  have B9 := F9.binds (ps := ["old", "new", "told"]) fun _ _ _ _ _ _ us hl => match us, hl with | [_, _, _], _ => rfl
  have F10 := fun_mk (st := s__law_sizes) l10 c10 k10
  have B10 := F10.binds (ps := ["pool", "most"]) fun _ _ _ _ _ _ us hl => match us, hl with | [_, _], _ => rfl
  have F11 := fun_mk (st := s__law_content) l11 c11 k11
  have B11 := F11.binds (ps := ["sizes", "number"]) fun _ _ _ _ _ _ us hl => match us, hl with | [_, _], _ => rfl
  have F12 := fun_mk (st := s__law_far_table) l12 c12 k12
  have B12 := F12.binds (ps := ["pool", "many"]) fun _ _ _ _ _ _ us hl => match us, hl with | [_, _], _ => rfl
  have F13 := fun_mk (st := s__law_table) l13 c13 k13
  have B13 := F13.binds (ps := ["pool", "sizes", "many"]) fun _ _ _ _ _ _ us hl => match us, hl with | [_, _, _], _ => rfl
  have F14 := fun_mk (st := s__law_near) l14 c14 k14
  have B14 := F14.binds (ps := ["pool", "values"]) fun _ _ _ _ _ _ us hl => match us, hl with | [_, _], _ => rfl
  have F15 := fun_mk (st := s__law_news) l15 c15 k15
  have B15 := F15.binds (ps := ["sizes", "content", "old"]) fun _ _ _ _ _ _ us hl => match us, hl with | [_, _, _], _ => rfl
  have F16 := fun_mk (st := s__law_tears) l16 c16 k16
  have B16 := F16.binds (ps := ["sizes", "values"]) fun _ _ _ _ _ _ us hl => match us, hl with | [_, _], _ => rfl
  have F17 := fun_mk (st := s_law) l17 c17 k17
  have B17 := F17.binds (ps := ["script"]) fun _ _ _ _ _ _ us hl => match us, hl with | [_], _ => rfl
  let T : Tb K mg := ⟨_, _, F0, B0, PySem.W.mg_of X G a0, _, _, F1, B1, PySem.W.mg_of X G a1, _, _, F2, B2, PySem.W.mg_of X G a2, _, _, F3, B3, PySem.W.mg_of X G a3, _, _, F4, B4, PySem.W.mg_of X G a4, _, _, F5, B5, PySem.W.mg_of X G a5, _, _, F6, B6, PySem.W.mg_of X G a6, _, _, F7, B7, PySem.W.mg_of X G a7, _, _, F8, B8, PySem.W.mg_of X G a8, _, _, F9, B9, PySem.W.mg_of X G a9, _, _, F10, B10, PySem.W.mg_of X G a10, _, _, F11, B11, PySem.W.mg_of X G a11, _, _, F12, B12, PySem.W.mg_of X G a12, _, _, F13, B13, PySem.W.mg_of X G a13, _, _, F14, B14, PySem.W.mg_of X G a14, _, _, F15, B15, PySem.W.mg_of X G a15, _, _, F16, B16, PySem.W.mg_of X G a16, _, _, F17, B17, PySem.W.mg_of X G a17, PySem.W.mg_none_of X G z0, PySem.W.mg_none_of X G z1, PySem.W.mg_none_of X G z2, PySem.W.mg_none_of X G z3, PySem.W.mg_none_of X G z4, PySem.W.mg_none_of X G z5, PySem.W.mg_none_of X G z6, PySem.W.mg_none_of X G z7, PySem.W.mg_none_of X G z8, PySem.W.mg_none_of X G z9, PySem.W.mg_none_of X G z10, PySem.W.mg_none_of X G z11, PySem.W.mg_none_of X G z12, PySem.W.mg_none_of X G z13, ⟨u0, PySem.W.mg_of X G v0⟩⟩
  exact ⟨_, F17, fun s u => .of_eq rfl, fun base _ _ s H cdv => t_law T⟩
end K68
open PySem PySem.W PyProof.Rows
set_option maxRecDepth 100000 in
set_option maxHeartbeats 0 in
theorem PySem.Challenge.cw_haltstoreys_k68_blind_tears_holds : PySem.Challenge.rw_haltstoreys_k68_blind_tears.Holds := by
  w_on; o_law; k_head; (case hw => w_witness2)
  k_fill
  refine DL.walk_data (l := PySem.Challenge.rw_haltstoreys_k68_blind_tears) (n := 63) (k := 3) (x := "law") (qual := "law") (st := K68.s_law) (b := K68.b_law K68.p__law_pool K68.p__law_pair K68.p__law_is_mixed K68.p_mixtures K68.p__law_take K68.p__law_sizes K68.p__law_table K68.p__law_tears K68.p__law_near K68.p_blind_tears) (y := "script") rfl (by decide) rfl ⟨rfl, by decide, by decide⟩ (fun w h Y => PySem.W.kIn_of Y) K68.sc_law ?F fun ns hl => K68.q_law ns
  case F =>
    intro w mg fa h KX G hmg
    refine' K68.all_mk KX G hmg ?a0 ?l0 ?c0 ?k0 ?a1 ?l1 ?c1 ?k1 ?a2 ?l2 ?c2 ?k2 ?a3 ?l3 ?c3 ?k3 ?a4 ?l4 ?c4 ?k4 ?a5 ?l5 ?c5 ?k5 ?a6 ?l6 ?c6 ?k6 ?a7 ?l7 ?c7 ?k7 ?a8 ?l8 ?c8 ?k8 ?a9 ?l9 ?c9 ?k9 ?a10 ?l10 ?c10 ?k10 ?a11 ?l11 ?c11 ?k11 ?a12 ?l12 ?c12 ?k12 ?a13 ?l13 ?c13 ?k13 ?a14 ?l14 ?c14 ?k14 ?a15 ?l15 ?c15 ?k15 ?a16 ?l16 ?c16 ?k16 ?a17 ?l17 ?c17 ?k17 ?z0 ?z1 ?z2 ?z3 ?z4 ?z5 ?z6 ?z7 ?z8 ?z9 ?z10 ?z11 ?z12 ?z13 ?v0
    (case a0 => k_is)
    (case l0 => k_is)
    (case c0 => k_is)
    (case k0 => k_is)
    (case a1 => k_is)
    (case l1 => k_is)
    (case c1 => k_is)
    (case k1 => k_is)
    (case a2 => k_is)
    (case l2 => k_is)
    (case c2 => k_is)
    (case k2 => k_is)
    (case a3 => k_is)
    (case l3 => k_is)
    (case c3 => k_is)
    (case k3 => k_is)
    (case a4 => k_is)
    (case l4 => k_is)
    (case c4 => k_is)
    (case k4 => k_is)
    (case a5 => k_is)
    (case l5 => k_is)
    (case c5 => k_is)
    (case k5 => k_is)
    (case a6 => k_is)
    (case l6 => k_is)
    (case c6 => k_is)
    (case k6 => k_is)
    (case a7 => k_is)
    (case l7 => k_is)
    (case c7 => k_is)
    (case k7 => k_is)
    (case a8 => k_is)
    (case l8 => k_is)
    (case c8 => k_is)
    (case k8 => k_is)
    (case a9 => k_is)
    (case l9 => k_is)
    (case c9 => k_is)
    (case k9 => k_is)
    (case a10 => k_is)
    (case l10 => k_is)
    (case c10 => k_is)
    (case k10 => k_is)
    (case a11 => k_is)
    (case l11 => k_is)
    (case c11 => k_is)
    (case k11 => k_is)
    (case a12 => k_is)
    (case l12 => k_is)
    (case c12 => k_is)
    (case k12 => k_is)
    (case a13 => k_is)
    (case l13 => k_is)
    (case c13 => k_is)
    (case k13 => k_is)
    (case a14 => k_is)
    (case l14 => k_is)
    (case c14 => k_is)
    (case k14 => k_is)
    (case a15 => k_is)
    (case l15 => k_is)
    (case c15 => k_is)
    (case k15 => k_is)
    (case a16 => k_is)
    (case l16 => k_is)
    (case c16 => k_is)
    (case k16 => k_is)
    (case a17 => k_is)
    (case l17 => k_is)
    (case c17 => k_is)
    (case k17 => k_is)
    (case z0 => k_is)
    (case z1 => k_is)
    (case z2 => k_is)
    (case z3 => k_is)
    (case z4 => k_is)
    (case z5 => k_is)
    (case z6 => k_is)
    (case z7 => k_is)
    (case z8 => k_is)
    (case z9 => k_is)
    (case z10 => k_is)
    (case z11 => k_is)
    (case z12 => k_is)
    (case z13 => k_is)
    (case v0 => k_is)

