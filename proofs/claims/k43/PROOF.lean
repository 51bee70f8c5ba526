import PyProof.Rows.All
import Wide.All
import OpenK.AllK
import Wide.FinOn
import HandS.ForMost
import HandS.Flow
import HandS.Walk
import HandS.IsInst
import HandS.TupAny
import HandS.Style
import HandS.TupLe
import HandS.SetKeys
import HandS.Deep
import HandS.TupLen
import HandS.SortInts
import HandS.Conv
import HandS.More
import KE.GoesEnum
import HandS.TupMul
import PyProof.DictUpdate
import HandS.Text
import PySem.Challenge.RW_foldapart_k43_what_has_the_form_of_a_gra
set_option Elab.async false
set_option linter.all false
set_option maxRecDepth 100000
set_option maxHeartbeats 4000000
/-! TL1: values as trees, what is changed as cells of a store; readings over them. -/
namespace TL
open PySem L2
/-- a value as a tree; ref: a cell of the store -/
inductive T where
  | non | bl (b : Bool) | int (i : Int) | str (x : Str) | tup (ts : List T) | lst (ts : List T) | ref (a : Addr) | arg (ns : List Int)
/-- what a cell holds -/
inductive Cell where
  | lst (ts : List T) | dK (kvs : List (Key × T)) | dT (kvs : List (List Key × T))
abbrev Sto := Addr → Option Cell
abbrev Sl := List (Option T)
abbrev Post := T → Sto → Prop
abbrev WE := Sl → Sto → Post → Prop
abbrev WB := Sl → Sto → (Bool → Sto → Prop) → Prop
abbrev WA := Sl → Sto → (List T → Sto → Prop) → Prop
def supd (S : Sto) (a : Addr) (c : Cell) : Sto := fun b => if b = a then some c else S b
theorem supd_same {S : Sto} {a : Addr} {c : Cell} : supd S a c a = some c := by unfold supd; rw [if_pos rfl]
theorem supd_ne {S : Sto} {a b : Addr} {c : Cell} (h : b ≠ a) : supd S a c b = S b := by unfold supd; rw [if_neg h]

/-- the law's own argument: a list that nobody changes -/
def ArgOk (K : PySem.W.Frag) (H : Hp) (S : Sto) (a : Addr) (us : List V) : Prop := (Rd H a (.lst us) ∧ S a = none) ∨ ∃ (o : Obj) (its : Array Value) (n : Nat), K.lookup a = some o ∧ o.cls = .type "list" ∧ o.dict = none ∧ o.data = .seq its n ∧ its.size ≤ sizeLine ∧ Vals us its.toList
mutual
inductive Rp (K : PySem.W.Frag) (H : Hp) (S : Sto) : T → V → Prop
  | non : Rp K H S .non .non
  | bl (b : Bool) : Rp K H S (.bl b) (.bl b)
  | int (i : Int) : Rp K H S (.int i) (.int i)
  | str (x : Str) : Rp K H S (.str x) (.str x)
  | lst {a : Addr} {us : List V} {ts : List T} : H a = some (.lst us) → S a = none → ts.length ≤ sizeLine → RpL K H S ts us → Rp K H S (.lst ts) (.ref a)
  | tup {a : Addr} {us : List V} {ts : List T} : H a = some (.tup us) → ts.length ≤ sizeLine → RpL K H S ts us → Rp K H S (.tup ts) (.ref a)
  | ref (a : Addr) : Rp K H S (.ref a) (.ref a)
  | arg {a : Addr} {ns : List Int} : ArgOk K H S a (ns.map V.int) → ns.length ≤ sizeLine → Rp K H S (.arg ns) (.ref a)
inductive RpL (K : PySem.W.Frag) (H : Hp) (S : Sto) : List T → List V → Prop
  | nil : RpL K H S [] []
  | cons {t : T} {v : V} {ts : List T} {vs : List V} : Rp K H S t v → RpL K H S ts vs → RpL K H S (t :: ts) (v :: vs)
end
/-- what lies still stays -/
structure Ev (K : PySem.W.Frag) (H : Hp) (S : Sto) (H' : Hp) (S' : Sto) : Prop where
  lst : ∀ a us, S a = none → H a = some (.lst us) → H' a = some (.lst us) ∧ S' a = none
  frz : ∀ a o u, S a = none → H a = some (.frz o u) → H' a = some (.frz o u) ∧ S' a = none
  tup : ∀ a us, H a = some (.tup us) → H' a = some (.tup us)
section
variable {K : PySem.W.Frag} {H H1 H2 : Hp} {S S1 S2 : Sto}
theorem Ev.refl : Ev K H S H S := ⟨fun _ _ h r => ⟨r, h⟩, fun _ _ _ h r => ⟨r, h⟩, fun _ _ h => h⟩
theorem Ev.trans (a : Ev K H S H1 S1) (b : Ev K H1 S1 H2 S2) : Ev K H S H2 S2 :=
  ⟨fun c us h r => let ⟨r1, h1⟩ := a.lst c us h r; b.lst c us h1 r1, fun c o us h r => let ⟨r1, h1⟩ := a.frz c o us h r; b.frz c o us h1 r1, fun c us h => b.tup c us (a.tup c us h)⟩
theorem ArgOk.ev (e : Ev K H S H1 S1) {a : Addr} {us : List V} (h : ArgOk K H S a us) : ArgOk K H1 S1 a us := by
  rcases h with ⟨h | ⟨o, h⟩, n⟩ | h
  · obtain ⟨h1, n1⟩ := e.lst _ _ n h
    exact .inl ⟨.inl h1, n1⟩
  · obtain ⟨h1, n1⟩ := e.frz _ _ _ n h
    exact .inl ⟨.inr ⟨o, h1⟩, n1⟩
  · exact .inr h
theorem ArgOk.seq {a : Addr} {us : List V} (h : ArgOk K H S a us) : SqL K H a us := by
  rcases h with ⟨h, _⟩ | h
  · exact .inl h
  · exact .inr h
mutual
theorem Rp.ev (e : Ev K H S H1 S1) : ∀ {t : T} {v : V}, Rp K H S t v → Rp K H1 S1 t v
  | _, _, .non => .non
  | _, _, .bl b => .bl b
  | _, _, .int i => .int i
  | _, _, .str x => .str x
  | _, _, .lst r n z l => let ⟨r1, n1⟩ := e.lst _ _ n r; .lst r1 n1 z (RpL.ev e l)
  | _, _, .tup r z l => .tup (e.tup _ _ r) z (RpL.ev e l)
  | _, _, .ref a => .ref a
  | _, _, .arg h z => .arg (h.ev e) z
theorem RpL.ev (e : Ev K H S H1 S1) : ∀ {ts : List T} {vs : List V}, RpL K H S ts vs → RpL K H1 S1 ts vs
  | _, _, .nil => .nil
  | _, _, .cons r l => .cons (Rp.ev e r) (RpL.ev e l)
end
theorem RpL.length : ∀ {ts : List T} {vs : List V}, RpL K H S ts vs → ts.length = vs.length
  | _, _, .nil => rfl
  | _, _, .cons _ l => congrArg (· + 1) l.length
theorem RpL.get : ∀ {ts : List T} {vs : List V} {i : Nat} {v : V}, RpL K H S ts vs → vs[i]? = some v → ∃ t, ts[i]? = some t ∧ Rp K H S t v
  | _, _, _, _, .nil, h => by simp at h
  | _, _, 0, _, .cons r _, h => by simp at h; subst h; exact ⟨_, rfl, r⟩
  | _, _, i + 1, _, .cons _ l, h => by
    obtain ⟨t, h1, h2⟩ := RpL.get (i := i) l (by simpa using h)
    exact ⟨t, by simpa using h1, h2⟩
theorem RpL.get' : ∀ {ts : List T} {vs : List V} {i : Nat} {t : T}, RpL K H S ts vs → ts[i]? = some t → ∃ v, vs[i]? = some v ∧ Rp K H S t v
  | _, _, _, _, .nil, h => by simp at h
  | _, _, 0, _, .cons r _, h => by simp at h; subst h; exact ⟨_, rfl, r⟩
  | _, _, i + 1, _, .cons _ l, h => by
    obtain ⟨t, h1, h2⟩ := RpL.get' (i := i) l (by simpa using h)
    exact ⟨t, by simpa using h1, h2⟩
theorem RpL.append : ∀ {ts us : List T} {vs ws : List V}, RpL K H S ts vs → RpL K H S us ws → RpL K H S (ts ++ us) (vs ++ ws)
  | _, _, _, _, .nil, b => b
  | _, _, _, _, .cons r l, b => .cons r (l.append b)
theorem RpL.take : ∀ {ts : List T} {vs : List V} (n : Nat), RpL K H S ts vs → RpL K H S (ts.take n) (vs.take n)
  | _, _, 0, _ => .nil
  | _, _, _ + 1, .nil => .nil
  | _, _, n + 1, .cons r l => .cons r (RpL.take n l)
theorem RpL.drop : ∀ {ts : List T} {vs : List V} (n : Nat), RpL K H S ts vs → RpL K H S (ts.drop n) (vs.drop n)
  | _, _, 0, r => r
  | _, _, _ + 1, .nil => .nil
  | _, _, n + 1, .cons _ l => RpL.drop n l
theorem RpL.set {t : T} {v : V} (r : Rp K H S t v) : ∀ {ts : List T} {vs : List V} (n : Nat), RpL K H S ts vs → RpL K H S (ts.set n t) (vs.set n v)
  | _, _, _, .nil => .nil
  | _, _, 0, .cons _ l => .cons r l
  | _, _, n + 1, .cons q l => .cons q (RpL.set r n l)
theorem RpL.reverse {ts : List T} {vs : List V} (h : RpL K H S ts vs) : RpL K H S ts.reverse vs.reverse := by
  induction ts generalizing vs with
  | nil => cases h; exact .nil
  | cons t ts ih => cases h with | cons r l => rw [List.reverse_cons, List.reverse_cons]; exact (ih l).append (.cons r .nil)
theorem RpL.eraseIdx : ∀ {ts : List T} {vs : List V} (n : Nat), RpL K H S ts vs → RpL K H S (ts.eraseIdx n) (vs.eraseIdx n)
  | _, _, _, .nil => .nil
  | _, _, 0, .cons _ l => l
  | _, _, n + 1, .cons q l => .cons q (RpL.eraseIdx n l)
theorem RpL.ints : ∀ {ns : List Int} {vs : List V}, RpL K H S (ns.map T.int) vs → vs = ns.map V.int
  | [], _, h => by cases h; rfl
  | n :: ns, _, h => by
    cases h with | cons r l => cases r; rw [RpL.ints l]; rfl
theorem RpL.strs : ∀ {ns : List Str} {vs : List V}, RpL K H S (ns.map T.str) vs → vs = ns.map V.str
  | [], _, h => by cases h; rfl
  | n :: ns, _, h => by
    cases h with | cons r l => cases r; rw [RpL.strs l]; rfl
theorem RpL.bls : ∀ {ns : List Bool} {vs : List V}, RpL K H S (ns.map T.bl) vs → vs = ns.map V.bl
  | [], _, h => by cases h; rfl
  | n :: ns, _, h => by
    cases h with | cons r l => cases r; rw [RpL.bls l]; rfl
theorem rpl_ints : ∀ (ns : List Int), RpL K H S (ns.map T.int) (ns.map V.int)
  | [] => .nil
  | n :: ns => .cons (.int n) (rpl_ints ns)
theorem rpl_strs : ∀ (ns : List Str), RpL K H S (ns.map T.str) (ns.map V.str)
  | [] => .nil
  | n :: ns => .cons (.str n) (rpl_strs ns)
end
/-- the slots -/
def RpO (K : PySem.W.Frag) (H : Hp) (S : Sto) : Option T → Option V → Prop
  | some t, some v => Rp K H S t v
  | some _, none => False
  | none, _ => True
abbrev EnvR (K : PySem.W.Frag) (H : Hp) (S : Sto) : Sl → St → Prop := Paired (RpO K H S)
/-- a dict's entries -/
def RpK (K : PySem.W.Frag) (H : Hp) (S : Sto) {κ : Type} : List (κ × T) → List (κ × V) → Prop := Paired fun p q => p.1 = q.1 ∧ Rp K H S p.2 q.2
def CellR (K : PySem.W.Frag) (H : Hp) (S : Sto) (a : Addr) : Cell → Prop
  | .lst ts => ts.length ≤ sizeLine ∧ ∃ us, H a = some (.lst us) ∧ RpL K H S ts us
  | .dK kvs => ∃ vs, H a = some (.dK vs) ∧ RpK K H S kvs vs
  | .dT kvs => ∃ vs, H a = some (.dT vs) ∧ RpK K H S kvs vs
def HR (K : PySem.W.Frag) (H : Hp) (S : Sto) : Prop := ∀ a c, S a = some c → CellR K H S a c
section
variable {K : PySem.W.Frag} {H H1 H2 : Hp} {S S1 S2 : Sto}
theorem Paired.imp {α β : Type} {F G : α → β → Prop} (f : ∀ a b, F a b → G a b) : ∀ {xs : List α} {ys : List β}, Paired F xs ys → Paired G xs ys
  | _, _, .nil => .nil
  | _, _, .cons r t => .cons (f _ _ r) (Paired.imp f t)
theorem Paired.get {α β : Type} {F : α → β → Prop} : ∀ {xs : List α} {ys : List β} {i : Nat} {x : α}, Paired F xs ys → xs[i]? = some x → ∃ y, ys[i]? = some y ∧ F x y
  | _, _, _, _, .nil, h => by simp at h
  | _, _, 0, _, .cons r _, h => by simp at h; subst h; exact ⟨_, rfl, r⟩
  | _, _, i + 1, _, .cons _ l, h => by
    obtain ⟨t, h1, h2⟩ := Paired.get (i := i) l (by simpa using h)
    exact ⟨t, by simpa using h1, h2⟩
theorem Paired.set {α β : Type} {F : α → β → Prop} {x : α} {y : β} (r : F x y) : ∀ {xs : List α} {ys : List β} (n : Nat), Paired F xs ys → Paired F (xs.set n x) (ys.set n y)
  | _, _, _, .nil => .nil
  | _, _, 0, .cons _ l => .cons r l
  | _, _, n + 1, .cons q l => .cons q (Paired.set r n l)
theorem Paired.append {α β : Type} {F : α → β → Prop} : ∀ {xs xs' : List α} {ys ys' : List β}, Paired F xs ys → Paired F xs' ys' → Paired F (xs ++ xs') (ys ++ ys')
  | _, _, _, _, .nil, b => b
  | _, _, _, _, .cons r l, b => .cons r (Paired.append l b)
theorem RpO.ev (e : Ev K H S H1 S1) : ∀ {t : Option T} {v : Option V}, RpO K H S t v → RpO K H1 S1 t v
  | some _, some _, h => Rp.ev e h
  | some _, none, h => h.elim
  | none, _, _ => trivial
theorem EnvR.ev (e : Ev K H S H1 S1) {ρ : Sl} {σ : St} (h : EnvR K H S ρ σ) : EnvR K H1 S1 ρ σ := Paired.imp (fun _ _ => RpO.ev e) h
theorem EnvR.get {ρ : Sl} {σ : St} {i : Nat} {t : T} (h : EnvR K H S ρ σ) (e : ρ[i]? = some (some t)) : ∃ v, σ[i]? = some (some v) ∧ Rp K H S t v := by
  obtain ⟨y, h1, h2⟩ := Paired.get h e
  cases y with
  | none => exact h2.elim
  | some v => exact ⟨v, h1, h2⟩
theorem EnvR.set {ρ : Sl} {σ : St} {t : T} {v : V} (h : EnvR K H S ρ σ) (r : Rp K H S t v) (i : Nat) : EnvR K H S (ρ.set i (some t)) (σ.set i (some v)) := Paired.set (x := some t) (y := some v) r i h
theorem RpK.ev {κ : Type} (e : Ev K H S H1 S1) {p : List (κ × T)} {q : List (κ × V)} (h : RpK K H S p q) : RpK K H1 S1 p q := Paired.imp (fun _ _ ⟨a, b⟩ => ⟨a, b.ev e⟩) h
/-- a new thing laid at a free address -/
theorem Ev.laid {p : Addr} {o : HO} (hp : H p = none) : Ev K H S (upd H p o) S := by
  refine ⟨fun a us n r => ⟨?_, n⟩, fun a q us n r => ⟨?_, n⟩, fun a us h => ?_⟩
  · rw [upd_ne (ne_of_none r hp)]; exact r
  · rw [upd_ne (ne_of_none r hp)]; exact r
  · rw [upd_ne (ne_of_none h hp)]; exact h
theorem HR.laid {p : Addr} {o : HO} (hp : H p = none) (h : HR K H S) : HR K (upd H p o) S := fun a c e => by
  have q := h a c e
  have ev : Ev K H S (upd H p o) S := Ev.laid hp
  cases c with
  | lst ts =>
    obtain ⟨z, us, h1, h2⟩ := q
    exact ⟨z, us, by rw [upd_ne (ne_of_none h1 hp)]; exact h1, h2.ev ev⟩
  | dK kvs =>
    obtain ⟨us, h1, h2⟩ := q
    exact ⟨us, by rw [upd_ne (ne_of_none h1 hp)]; exact h1, h2.ev ev⟩
  | dT kvs =>
    obtain ⟨us, h1, h2⟩ := q
    exact ⟨us, by rw [upd_ne (ne_of_none h1 hp)]; exact h1, h2.ev ev⟩
theorem HR.none (h : HR K H S) {p : Addr} (hp : H p = .none) : S p = .none := by
  cases e : S p with
  | none => rfl
  | some c =>
    have q := h p c e
    cases c with
    | lst ts => obtain ⟨_, us, h1, _⟩ := q; rw [hp] at h1; cases h1
    | dK ts => obtain ⟨us, h1, _⟩ := q; rw [hp] at h1; cases h1
    | dT ts => obtain ⟨us, h1, _⟩ := q; rw [hp] at h1; cases h1
/-- what is no list and no tuple may be written over; S' knows a -/
def NoSeq : Option HO → Prop
  | some (.tup _) => False
  | some (.frz _ _) => False
  | _ => True
theorem Ev.write {a : Addr} {o : HO} {S' : Sto} (ha : (S a).isSome = true) (hH : NoSeq (H a)) (hS : ∀ b, b ≠ a → S b = .none → S' b = .none) : Ev K H S (upd H a o) S' := by
  refine ⟨fun b us n r => ?_, fun b q us n r => ?_, fun b us h => ?_⟩
  · have ne : b ≠ a := by
      rintro rfl
      rw [n] at ha; cases ha
    exact ⟨by rw [upd_ne ne]; exact r, hS b ne n⟩
  · have ne : b ≠ a := by
      rintro rfl
      rw [n] at ha; cases ha
    exact ⟨by rw [upd_ne ne]; exact r, hS b ne n⟩
  · have ne : b ≠ a := by
      rintro rfl
      rw [h] at hH; exact hH
    rw [upd_ne ne]
    exact h
theorem CellR.noSeq {a : Addr} {c : Cell} (h : CellR K H S a c) : NoSeq (H a) := by
  cases c with
  | lst ts => obtain ⟨_, us, h1, _⟩ := h; rw [h1]; trivial
  | dK ts => obtain ⟨us, h1, _⟩ := h; rw [h1]; trivial
  | dT ts => obtain ⟨us, h1, _⟩ := h; rw [h1]; trivial
theorem CellR.ev {a : Addr} {c : Cell} (e : Ev K H S H1 S1) (k : H1 a = H a) (h : CellR K H S a c) : CellR K H1 S1 a c := by
  cases c with
  | lst ts => obtain ⟨z, us, h1, h2⟩ := h; exact ⟨z, us, by rw [k]; exact h1, h2.ev e⟩
  | dK ts => obtain ⟨us, h1, h2⟩ := h; exact ⟨us, by rw [k]; exact h1, h2.ev e⟩
  | dT ts => obtain ⟨us, h1, h2⟩ := h; exact ⟨us, by rw [k]; exact h1, h2.ev e⟩
/-- a cell is written -/
theorem ev_cell {a : Addr} {o : HO} {c : Cell} (h : HR K H S) (ha : (S a).isSome = true) : Ev K H S (upd H a o) (supd S a c) := by
  obtain ⟨c0, e⟩ := Option.isSome_iff_exists.mp ha
  exact Ev.write ha (h a c0 e).noSeq fun b ne n => by rw [supd_ne ne]; exact n
theorem hr_cell {a : Addr} {o : HO} {c : Cell} (h : HR K H S) (ha : (S a).isSome = true) (new : CellR K (upd H a o) (supd S a c) a c) : HR K (upd H a o) (supd S a c) := fun b d e => by
  by_cases ne : b = a
  · subst ne
    rw [supd_same] at e
    cases e
    exact new
  · rw [supd_ne ne] at e
    exact CellR.ev (ev_cell h ha) (upd_ne ne) (h b d e)
/-- a new cell -/
theorem ev_new {a : Addr} {o : HO} {c : Cell} (h : HR K H S) (ha : H a = .none) : Ev K H S (upd H a o) (supd S a c) := by
  refine ⟨fun b us n r => ?_, fun b q us n r => ?_, fun b us q => (Ev.laid (K := K) (S := S) (o := o) ha).tup b us q⟩
  · have ne : b ≠ a := ne_of_none r ha
    exact ⟨by rw [upd_ne ne]; exact r, by rw [supd_ne ne]; exact n⟩
  · have ne : b ≠ a := ne_of_none r ha
    exact ⟨by rw [upd_ne ne]; exact r, by rw [supd_ne ne]; exact n⟩
theorem hr_new {a : Addr} {o : HO} {c : Cell} (h : HR K H S) (ha : H a = .none) (new : CellR K (upd H a o) (supd S a c) a c) : HR K (upd H a o) (supd S a c) := fun b d e => by
  by_cases ne : b = a
  · subst ne
    rw [supd_same] at e
    cases e
    exact new
  · rw [supd_ne ne] at e
    exact CellR.ev (ev_new h ha) (upd_ne ne) (h b d e)
/-- fewer cells are known -/
def Sub (S1 S : Sto) : Prop := ∀ a c, S1 a = some c → S a = some c
theorem Sub.refl (S : Sto) : Sub S S := fun _ _ h => h
theorem Sub.trans {S S1 S2 : Sto} (a : Sub S2 S1) (b : Sub S1 S) : Sub S2 S := fun c d h => b c d (a c d h)
theorem Sub.none {a : Addr} (h : Sub S1 S) (n : S a = .none) : S1 a = .none := by
  cases e : S1 a with
  | none => rfl
  | some c => rw [h a c e] at n; cases n
theorem Ev.sub (h : Sub S1 S) : Ev K H S H S1 := ⟨fun _ _ n r => ⟨r, h.none n⟩, fun _ _ _ n r => ⟨r, h.none n⟩, fun _ _ q => q⟩
theorem HR.sub (h : Sub S1 S) (q : HR K H S) : HR K H S1 := fun a c e => CellR.ev (Ev.sub h) rfl (q a c (h a c e))
end

/-! ### a frame F of cells that the reading does not see -/
section
variable {K : PySem.W.Frag} {H H1 H2 : Hp} {S S1 S2 F : Sto}
def mix (S F : Sto) : Sto := fun a => match F a with
  | some c => some c
  | none => S a
def Dj (S F : Sto) : Prop := ∀ a c, S a = some c → F a = .none
theorem mix_of {a : Addr} (h : F a = .none) : mix S F a = S a := by unfold mix; rw [h]
theorem mix_some {a : Addr} {c : Cell} (d : Dj S F) (h : S a = some c) : mix S F a = some c := by rw [mix_of (d a c h), h]
theorem mix_none {a : Addr} (h : mix S F a = .none) : S a = .none ∧ F a = .none := by
  unfold mix at h
  split at h
  · cases h
  · next e => exact ⟨h, e⟩
theorem mix_supd {a : Addr} {c : Cell} (h : F a = .none) : mix (supd S a c) F = supd (mix S F) a c := by
  funext b
  unfold mix supd
  by_cases e : b = a
  · subst e; simp [h]
  · simp [e]
theorem Dj.supd {a : Addr} {c : Cell} (d : Dj S F) (h : F a = .none) : Dj (TL.supd S a c) F := fun b k e => by
  by_cases q : b = a
  · rw [q]; exact h
  · rw [supd_ne q] at e; exact d b k e
theorem Dj.sub (d : Dj S F) (h : Sub S1 S) : Dj S1 F := fun a c e => d a c (h a c e)
theorem mix_sub (h : Sub S1 S) : Sub (mix S1 F) (mix S F) := fun a c e => by
  unfold mix at e ⊢
  split at e
  · exact e
  · exact h a c e
abbrev HW (K : PySem.W.Frag) (F : Sto) (H : Hp) (S : Sto) : Prop := Dj S F ∧ HR K H (mix S F)
abbrev EvF (K : PySem.W.Frag) (F : Sto) (H : Hp) (S : Sto) (H' : Hp) (S' : Sto) : Prop := Ev K H (mix S F) H' (mix S' F)
abbrev RpF (K : PySem.W.Frag) (F : Sto) (H : Hp) (S : Sto) (t : T) (v : V) : Prop := Rp K H (mix S F) t v
abbrev RpLF (K : PySem.W.Frag) (F : Sto) (H : Hp) (S : Sto) (t : List T) (v : List V) : Prop := RpL K H (mix S F) t v
abbrev EnvF (K : PySem.W.Frag) (F : Sto) (H : Hp) (S : Sto) (t : Sl) (v : St) : Prop := EnvR K H (mix S F) t v
theorem HW.laid {p : Addr} {o : HO} (hp : H p = .none) (h : HW K F H S) : HW K F (upd H p o) S := ⟨h.1, h.2.laid hp⟩
theorem HW.none (h : HW K F H S) {p : Addr} (hp : H p = .none) : S p = .none := (mix_none (h.2.none hp)).1
theorem HW.noneF (h : HW K F H S) {p : Addr} (hp : H p = .none) : F p = .none := (mix_none (h.2.none hp)).2
theorem HW.sub (h : HW K F H S) (b : Sub S1 S) : HW K F H S1 := ⟨h.1.sub b, h.2.sub (mix_sub b)⟩
theorem EvF.sub (b : Sub S1 S) : EvF K F H S H S1 := Ev.sub (mix_sub b)
theorem HW.cell (h : HW K F H S) {a : Addr} {c : Cell} (e : S a = some c) : CellR K H (mix S F) a c := h.2 a c (mix_some h.1 e)
theorem evf_cell {a : Addr} {o : HO} {c : Cell} (h : HW K F H S) (ha : (S a).isSome = true) : EvF K F H S (upd H a o) (supd S a c) := by
  obtain ⟨c0, e⟩ := Option.isSome_iff_exists.mp ha
  show Ev K H (mix S F) (upd H a o) (mix (supd S a c) F)
  rw [mix_supd (h.1 a c0 e)]
  exact ev_cell h.2 (by rw [mix_some h.1 e]; rfl)
theorem hw_cell {a : Addr} {o : HO} {c : Cell} (h : HW K F H S) (ha : (S a).isSome = true) (new : CellR K (upd H a o) (mix (supd S a c) F) a c) : HW K F (upd H a o) (supd S a c) := by
  obtain ⟨c0, e⟩ := Option.isSome_iff_exists.mp ha
  refine ⟨h.1.supd (h.1 a c0 e), ?_⟩
  rw [mix_supd (h.1 a c0 e)] at new ⊢
  exact hr_cell h.2 (by rw [mix_some h.1 e]; rfl) new
theorem evf_new {a : Addr} {o : HO} {c : Cell} (h : HW K F H S) (ha : H a = .none) : EvF K F H S (upd H a o) (supd S a c) := by
  show Ev K H (mix S F) (upd H a o) (mix (supd S a c) F)
  rw [mix_supd (h.noneF ha)]
  exact ev_new h.2 ha
theorem hw_new {a : Addr} {o : HO} {c : Cell} (h : HW K F H S) (ha : H a = .none) (new : CellR K (upd H a o) (mix (supd S a c) F) a c) : HW K F (upd H a o) (supd S a c) := by
  refine ⟨h.1.supd (h.noneF ha), ?_⟩
  rw [mix_supd (h.noneF ha)] at new ⊢
  exact hr_new h.2 ha new
/-- a cell more in the frame -/
theorem mix_fr {a : Addr} {c : Cell} (h : S a = .none) : mix S (supd F a c) = supd (mix S F) a c := by
  funext b
  unfold mix supd
  by_cases e : b = a
  · subst e; simp
  · simp [e]
theorem Dj.fr {a : Addr} {c : Cell} (d : Dj S F) (h : S a = .none) : Dj S (TL.supd F a c) := fun b k e => by
  by_cases q : b = a
  · rw [q, h] at e; cases e
  · rw [supd_ne q]; exact d b k e
end
end TL

set_option Elab.async false
set_option linter.all false
set_option maxRecDepth 100000
set_option maxHeartbeats 4000000
/-! TL2: the judgements over trees; names, constants, operators, tests, calls, statements. -/
namespace TL
open PySem L2
def up (K : PySem.W.Frag) (w : WE) : TE := fun σ H Q => ∃ F ρ S R, EnvF K F H S ρ σ ∧ HW K F H S ∧ w ρ S R ∧ ∀ t S' v H', EvF K F H S H' S' → HW K F H' S' → RpF K F H' S' t v → R t S' → Q v H'
def upB (K : PySem.W.Frag) (w : WB) : TT := fun σ H Q => ∃ F ρ S R, EnvF K F H S ρ σ ∧ HW K F H S ∧ w ρ S R ∧ ∀ b S' H', EvF K F H S H' S' → HW K F H' S' → R b S' → Q b H'
def upA (K : PySem.W.Frag) (w : WA) : TA := fun σ H Q => ∃ F ρ S R, EnvF K F H S ρ σ ∧ HW K F H S ∧ w ρ S R ∧ ∀ ts S' vs H', EvF K F H S H' S' → HW K F H' S' → RpLF K F H' S' ts vs → R ts S' → Q vs H'
structure TX (X : Cx) (e : Expr) (w : WE) : Prop where
  pe : PE X e (up X.K w)
structure TB (X : Cx) (e : Expr) (w : WB) : Prop where
  pt : PT X e (upB X.K w)
structure TBW (X : Cx) (e : Expr) (w : WB) : Prop where
  pw : PW X e (upB X.K w)
structure TAs (X : Cx) (es : List Expr) (w : WA) : Prop where
  pa : PA X es (upA X.K w)
theorem PE.imp {X : Cx} {e : Expr} {t t' : TE} (h : PE X e t) (f : ∀ σ H Q, t' σ H Q → t σ H Q) : PE X e t' := ⟨fun pins s σ H Q I q => h.run pins s σ H Q I (f _ _ _ q)⟩
theorem PT.imp {X : Cx} {e : Expr} {t t' : TT} (h : PT X e t) (f : ∀ σ H Q, t' σ H Q → t σ H Q) : PT X e t' := ⟨fun pins s σ H Q I q => h.run pins s σ H Q I (f _ _ _ q)⟩
theorem PW.imp {X : Cx} {e : Expr} {t t' : TT} (h : PW X e t) (f : ∀ σ H Q, t' σ H Q → t σ H Q) : PW X e t' := ⟨fun wh pins s σ H Q I q => h.run wh pins s σ H Q I (f _ _ _ q)⟩
theorem PA.imp {X : Cx} {es : List Expr} {t t' : TA} (h : PA X es t) (f : ∀ σ H Q, t' σ H Q → t σ H Q) : PA X es t' := ⟨fun p pins s σ H Q I q => h.run p pins s σ H Q I (f _ _ _ q)⟩
theorem PS.imp {X : Cx} {st : Stmt} {t t' : TS} (h : PS X st t) (f : ∀ D σ H, t' D σ H → t D σ H) : PS X st t' := ⟨fun pins s σ H D I q => h.run pins s σ H D I (f _ _ _ q)⟩
theorem PSs.imp {X : Cx} {st : List Stmt} {t t' : TS} (h : PSs X st t) (f : ∀ D σ H, t' D σ H → t D σ H) : PSs X st t' := ⟨fun pins s σ H D I q => h.run pins s σ H D I (f _ _ _ q)⟩
/-- a reading may ask more -/
theorem TX.imp {X : Cx} {e : Expr} {w w' : WE} (h : TX X e w) (f : ∀ ρ S R, w' ρ S R → w ρ S R) : TX X e w' :=
  ⟨PE.imp h.pe fun σ H Q ⟨F, ρ, S, R, a, b, c, d⟩ => ⟨F, ρ, S, R, a, b, f _ _ _ c, d⟩⟩
theorem TB.imp {X : Cx} {e : Expr} {w w' : WB} (h : TB X e w) (f : ∀ ρ S R, w' ρ S R → w ρ S R) : TB X e w' :=
  ⟨PT.imp h.pt fun σ H Q ⟨F, ρ, S, R, a, b, c, d⟩ => ⟨F, ρ, S, R, a, b, f _ _ _ c, d⟩⟩
/-! ### names and constants -/
def wVar (i : Nat) : WE := fun ρ S R => ∃ t, ρ[i]? = some (some t) ∧ R t S
def wC (t : T) : WE := fun _ S R => R t S
section
variable {X : Cx}
theorem tv (i : Nat) {x : Str} {pos : Pos} (hN : X.N[i]? = some x := by rfl) (hv : Vis X.env.scope x := by first | exact Or.inl rfl | exact Or.inr (Or.inl rfl) | exact Or.inr (Or.inr rfl)) (hd : (x == ("__debug__" : Str)) = false := by decide)
    (hcd : (x == ("__classdict__" : Str)) = false := by decide) : TX X (.Name x pos) (wVar i) :=
  ⟨PE.imp (pe_var hN hv hd hcd) fun σ H Q ⟨F, ρ, S, R, he, hr, ⟨t, h1, h2⟩, k⟩ => by
    obtain ⟨v, e1, r1⟩ := EnvR.get he h1
    exact ⟨v, e1, k t S v H Ev.refl hr r1 h2⟩⟩
theorem tx_c {e : Expr} {t : T} {v : V} (h : PE X e (tC v)) (r : ∀ K H S, Rp K H S t v) : TX X e (wC t) :=
  ⟨PE.imp h fun σ H Q ⟨F, ρ, S, R, he, hr, w, k⟩ => k t S v H Ev.refl hr (r _ _ _) w⟩
theorem tx_int {i j pos} : TX X (.Constant (.int i) j pos) (wC (.int i)) := tx_c pe_int fun _ _ _ => .int i
theorem tx_bl {b j pos} : TX X (.Constant (.bool b) j pos) (wC (.bl b)) := tx_c pe_bl fun _ _ _ => .bl b
theorem tx_non {j pos} : TX X (.Constant .none j pos) (wC .non) := tx_c pe_non fun _ _ _ => .non
theorem tx_str {x j pos} : TX X (.Constant (.str x) j pos) (wC (.str x)) := tx_c pe_str fun _ _ _ => .str x
/-- a module's constant: a text, an int -/
theorem tx_glob {x : Str} {t : T} {v : V} {u : Value} {pos : Pos} (hg : Gl X x) (hm : X.mg x = some u) (r : RelV v u) (rr : ∀ H S, Rp X.K H S t v) (hd : (x == ("__debug__" : Str)) = false := by decide) : TX X (.Name x pos) (wC t) :=
  ⟨PE.imp (pe_glob hg hm r hd) fun σ H Q ⟨F, ρ, S, R, he, hr, w, k⟩ => k t S v H Ev.refl hr (rr _ _) w⟩
end
/-! ### operators -/
/-- an operation on trees -/
def OpX (X : Cx) (f : Value → Value → Sem Value) (o : T → T → Sto → Post → Prop) : Prop :=
  ∃ r, OpR X f r ∧ ∀ F H S x y v u R Q, HW X.K F H S → RpF X.K F H S x v → RpF X.K F H S y u → o x y S R → (∀ t S' v' H', EvF X.K F H S H' S' → HW X.K F H' S' → RpF X.K F H' S' t v' → R t S' → Q v' H') → r v u H Q
def UnX (X : Cx) (f : Value → Sem Value) (o : T → Sto → Post → Prop) : Prop :=
  ∃ r, UnR X f r ∧ ∀ F H S x v R Q, HW X.K F H S → RpF X.K F H S x v → o x S R → (∀ t S' v' H', EvF X.K F H S H' S' → HW X.K F H' S' → RpF X.K F H' S' t v' → R t S' → Q v' H') → r v H Q
def CallX (X : Cx) (f : Value) (o : List T → Sto → Post → Prop) : Prop :=
  ∃ r, CallR X f r ∧ ∀ F H S xs vs R Q, HW X.K F H S → RpLF X.K F H S xs vs → o xs S R → (∀ t S' v' H', EvF X.K F H S H' S' → HW X.K F H' S' → RpF X.K F H' S' t v' → R t S' → Q v' H') → r vs H Q
def IxX (X : Cx) (o : T → T → Sto → Post → Prop) : Prop :=
  ∃ r, IxR X r ∧ ∀ F H S x y v u R Q, HW X.K F H S → RpF X.K F H S x v → RpF X.K F H S y u → o x y S R → (∀ t S' v' H', EvF X.K F H S H' S' → HW X.K F H' S' → RpF X.K F H' S' t v' → R t S' → Q v' H') → r v u H Q
section
variable {X : Cx} {f : Value → Value → Sem Value} {o o' : T → T → Sto → Post → Prop}
theorem OpX.or (a : OpX X f o) (b : OpX X f o') : OpX X f fun x y S R => o x y S R ∨ o' x y S R := by
  obtain ⟨r, h1, h2⟩ := a
  obtain ⟨r', h1', h2'⟩ := b
  refine ⟨fun x y H Q => r x y H Q ∨ r' x y H Q, h1.or h1', fun F H S x y v u R Q hr rx ry h k => ?_⟩
  rcases h with h | h
  · exact .inl (h2 F H S x y v u R Q hr rx ry h k)
  · exact .inr (h2' F H S x y v u R Q hr rx ry h k)
theorem OpX.imp (a : OpX X f o) (i : ∀ x y S R, o' x y S R → o x y S R) : OpX X f o' := by
  obtain ⟨r, h1, h2⟩ := a
  exact ⟨r, h1, fun F H S x y v u R Q hr rx ry h k => h2 F H S x y v u R Q hr rx ry (i _ _ _ _ h) k⟩
theorem CallX.or {f : Value} {o o' : List T → Sto → Post → Prop} (a : CallX X f o) (b : CallX X f o') : CallX X f fun xs S R => o xs S R ∨ o' xs S R := by
  obtain ⟨r, h1, h2⟩ := a
  obtain ⟨r', h1', h2'⟩ := b
  refine ⟨fun xs H Q => r xs H Q ∨ r' xs H Q, h1.or h1', fun F H S x v R Q hr rx h k => ?_⟩
  rcases h with h | h
  · exact .inl (h2 F H S x v R Q hr rx h k)
  · exact .inr (h2' F H S x v R Q hr rx h k)
theorem CallX.imp {f : Value} {o o' : List T → Sto → Post → Prop} (a : CallX X f o) (i : ∀ xs S R, o' xs S R → o xs S R) : CallX X f o' := by
  obtain ⟨r, h1, h2⟩ := a
  exact ⟨r, h1, fun F H S x v R Q hr rx h k => h2 F H S x v R Q hr rx (i _ _ _ h) k⟩
theorem IxX.or {o o' : T → T → Sto → Post → Prop} (a : IxX X o) (b : IxX X o') : IxX X fun x y S R => o x y S R ∨ o' x y S R := by
  obtain ⟨r, h1, h2⟩ := a
  obtain ⟨r', h1', h2'⟩ := b
  refine ⟨fun x y H Q => r x y H Q ∨ r' x y H Q, h1.or h1', fun F H S x y v u R Q hr rx ry h k => ?_⟩
  rcases h with h | h
  · exact .inl (h2 F H S x y v u R Q hr rx ry h k)
  · exact .inr (h2' F H S x y v u R Q hr rx ry h k)
theorem IxX.imp {o o' : T → T → Sto → Post → Prop} (a : IxX X o) (i : ∀ x y S R, o' x y S R → o x y S R) : IxX X o' := by
  obtain ⟨r, h1, h2⟩ := a
  exact ⟨r, h1, fun F H S x y v u R Q hr rx ry h k => h2 F H S x y v u R Q hr rx ry (i _ _ _ _ h) k⟩
end
def wOp (o : T → T → Sto → Post → Prop) (wa wb : WE) : WE := fun ρ S R => wa ρ S fun x S1 => wb ρ S1 fun y S2 => o x y S2 R
def wUn (o : T → Sto → Post → Prop) (wa : WE) : WE := fun ρ S R => wa ρ S fun x S1 => o x S1 R
/-- two parts, one behind the other, then what is by values -/
theorem up_two {K : PySem.W.Frag} {wa wb : WE} {o : T → T → Sto → Post → Prop} {r : V → V → Hp → VK → Prop}
    (hT : ∀ F H S x y v u R Q, HW K F H S → RpF K F H S x v → RpF K F H S y u → o x y S R → (∀ t S' v' H', EvF K F H S H' S' → HW K F H' S' → RpF K F H' S' t v' → R t S' → Q v' H') → r v u H Q) {σ : St} {H : Hp} {Q : VK}
    (h : up K (wOp o wa wb) σ H Q) : tOp r (up K wa) (up K wb) σ H Q := by
  obtain ⟨F, ρ, S, R, he, hr, w, k⟩ := h
  refine ⟨F, ρ, S, _, he, hr, w, fun x S1 v H1 e1 hr1 rx w1 => ?_⟩
  refine ⟨F, ρ, S1, _, he.ev e1, hr1, w1, fun y S2 u H2 e2 hr2 ry w2 => ?_⟩
  exact hT F H2 S2 x y v u R Q hr2 (rx.ev e2) ry w2 fun t S' v' H' e3 hr3 r3 q3 => k t S' v' H' ((e1.trans e2).trans e3) hr3 r3 q3
/-- a test by its value -/
def wTst (w : WE) : WB := fun ρ S R => w ρ S fun t S' => ∃ b, t = .bl b ∧ R b S'
theorem upB_tst {K : PySem.W.Frag} {w : WE} {t : TE} {σ : St} {H : Hp} {Q : Bool → Hp → Prop} (f : ∀ {Q : VK}, up K w σ H Q → t σ H Q) (h : upB K (wTst w) σ H Q) : tTest t σ H Q := by
  obtain ⟨F, ρ, S, R, he, hr, w', k⟩ := h
  refine f ⟨F, ρ, S, _, he, hr, w', fun t S' v H' e1 hr1 r1 ⟨b, h1, h2⟩ => ?_⟩
  subst h1
  cases r1
  exact ⟨b, rfl, k b S' H' e1 hr1 h2⟩
/-- a op b op' c -/
def wChain (o o' : T → T → Sto → Post → Prop) (wa wb wc : WE) : WE := fun ρ S R => wa ρ S fun x S1 => wb ρ S1 fun y S2 => o x y S2 fun z S3 => ∃ k, z = .bl k ∧ (if k = true then wc ρ S3 fun w S4 => o' y w S4 R else R (.bl false) S3)
theorem up_chain {K : PySem.W.Frag} {wa wb wc : WE} {o o' : T → T → Sto → Post → Prop} {r r' : V → V → Hp → VK → Prop}
    (h2 : ∀ F H S x y v u R Q, HW K F H S → RpF K F H S x v → RpF K F H S y u → o x y S R → (∀ t S' v' H', EvF K F H S H' S' → HW K F H' S' → RpF K F H' S' t v' → R t S' → Q v' H') → r v u H Q)
    (h2' : ∀ F H S x y v u R Q, HW K F H S → RpF K F H S x v → RpF K F H S y u → o' x y S R → (∀ t S' v' H', EvF K F H S H' S' → HW K F H' S' → RpF K F H' S' t v' → R t S' → Q v' H') → r' v u H Q) {σ : St} {H : Hp} {Q : VK}
    (h : up K (wChain o o' wa wb wc) σ H Q) : tChain r r' (up K wa) (up K wb) (up K wc) σ H Q := by
  obtain ⟨F, ρ, S, R, he, hr, w, k⟩ := h
  refine ⟨F, ρ, S, _, he, hr, w, fun x S1 v H1 e1 hr1 rx w1 => ?_⟩
  refine ⟨F, ρ, S1, _, he.ev e1, hr1, w1, fun y S2 u H2 e2 hr2 ry w2 => ?_⟩
  refine h2 F H2 S2 x y v u _ _ hr2 (rx.ev e2) ry w2 fun z S3 v3 H3 e3 hr3 r3 q3 => ?_
  obtain ⟨kk, rfl, q3⟩ := q3
  cases r3
  refine ⟨kk, rfl, ?_⟩
  cases kk with
  | true =>
    simp only [if_true] at q3 ⊢
    refine ⟨F, ρ, S3, _, ((he.ev e1).ev e2).ev e3, hr3, q3, fun w4 S4 v4 H4 e4 hr4 r4 w4' => ?_⟩
    exact h2' F H4 S4 y w4 u v4 R Q hr4 ((ry.ev e3).ev e4) r4 w4' fun t S' v' H' e5 hr5 r5 q5 => k t S' v' H' ((((e1.trans e2).trans e3).trans e4).trans e5) hr5 r5 q5
  | false =>
    simp only [Bool.false_eq_true, if_false] at q3 ⊢
    exact k _ S3 _ H3 ((e1.trans e2).trans e3) hr3 (.bl false) q3
section
variable {X : Cx} {a b c : Expr} {wa wb wc : WE} {pos : Pos} {o o' : T → T → Sto → Post → Prop}
theorem tx_op {op : Operator} (ho : OpX X (binaryOp op) o) (ha : TX X a wa) (hb : TX X b wb) : TX X (.BinOp a op b pos) (wOp o wa wb) := by
  obtain ⟨r, h1, h2⟩ := ho
  exact ⟨PE.imp (pe_op h1 ha.pe hb.pe) fun σ H Q h => up_two h2 h⟩
theorem tx_un {op : UnaryOp} {o : T → Sto → Post → Prop} (ho : UnX X (unaryOp op) o) (ha : TX X a wa) : TX X (.UnaryOp op a pos) (wUn o wa) := by
  obtain ⟨r, h1, h2⟩ := ho
  refine ⟨PE.imp (pe_un h1 ha.pe) fun σ H Q ⟨F, ρ, S, R, he, hr, w, k⟩ => ?_⟩
  exact ⟨F, ρ, S, _, he, hr, w, fun x S1 v H1 e1 hr1 rx w1 => h2 F H1 S1 x v R Q hr1 rx w1 fun t S' v' H' e3 hr3 r3 q3 => k t S' v' H' (e1.trans e3) hr3 r3 q3⟩
theorem tx_cmp {op : CmpOp} (ho : OpX X (compareOp op) o) (ha : TX X a wa) (hb : TX X b wb) (hm : behindInMarks op b = false) : TX X (.Compare a [op] [b] pos) (wOp o wa wb) := by
  obtain ⟨r, h1, h2⟩ := ho
  exact ⟨PE.imp (pe_cmpR h1 ha.pe hb.pe hm) fun σ H Q h => up_two h2 h⟩
theorem tx_chain {op op' : CmpOp} (ho : OpX X (compareOp op) o) (ho' : OpX X (compareOp op') o') (ha : TX X a wa) (hb : TX X b wb) (hc : TX X c wc) (hm : lastMarks [op, op'] [b, c] = false := by with_unfolding_all rfl) : TX X (.Compare a [op, op'] [b, c] pos) (wChain o o' wa wb wc) := by
  obtain ⟨r, h1, h2⟩ := ho
  obtain ⟨r', h1', h2'⟩ := ho'
  refine ⟨PE.imp (pe_chain h1 h1' ha.pe hb.pe hc.pe hm) fun σ H Q h => up_chain h2 h2' h⟩
/-- .. as a test -/
theorem tb_chain {op op' : CmpOp} (ho : OpX X (compareOp op) o) (ho' : OpX X (compareOp op') o') (ha : TX X a wa) (hb : TX X b wb) (hc : TX X c wc) (hm : lastMarks [op, op'] [b, c] = false := by with_unfolding_all rfl) : TB X (.Compare a [op, op'] [b, c] pos) (wTst (wChain o o' wa wb wc)) := by
  obtain ⟨r, h1, h2⟩ := ho
  obtain ⟨r', h1', h2'⟩ := ho'
  exact ⟨PT.imp (pt_chain h1 h1' ha.pe hb.pe hc.pe hm) fun σ H Q h => upB_tst (fun q => up_chain h2 h2' q) h⟩
theorem tb_cmp {op : CmpOp} (ho : OpX X (compareOp op) o) (ha : TX X a wa) (hb : TX X b wb) (hm : behindInMarks op b = false) : TB X (.Compare a [op] [b] pos) (wTst (wOp o wa wb)) := by
  obtain ⟨r, h1, h2⟩ := ho
  exact ⟨PT.imp (pt_cmpR h1 ha.pe hb.pe hm) fun σ H Q h => upB_tst (fun q => up_two h2 q) h⟩
end
/-! ### truth -/
def asL (S : Sto) : T → Option (List T)
  | .lst ts => some ts
  | .ref a => match S a with
    | some (.lst ts) => some ts
    | _ => none
  | _ => none
/-- the truth of a tree -/
def truT (S : Sto) : T → Option Bool
  | .non => some false
  | .bl b => some b
  | .int i => some (i != 0)
  | .str x => if x.length ≤ sizeLine then some ((x.length : Int) != 0) else none
  | .tup ts => some (!ts.isEmpty)
  | .lst ts => some (!ts.isEmpty)
  | .ref a => match S a with
    | some (.lst ts) => some (!ts.isEmpty)
    | some (.dK ts) => some (!ts.isEmpty)
    | _ => none
  | .arg ns => some (!ns.isEmpty)
theorem RpL.isEmpty {K : PySem.W.Frag} {H : Hp} {S : Sto} {ts : List T} {vs : List V} (h : RpL K H S ts vs) : ts.isEmpty = vs.isEmpty := by
  cases h <;> rfl
theorem RpK.isEmpty {K : PySem.W.Frag} {H : Hp} {S : Sto} {κ : Type} {ts : List (κ × T)} {vs : List (κ × V)} (h : RpK K H S ts vs) : ts.isEmpty = vs.isEmpty := by
  cases h <;> rfl
theorem truV_of {K : PySem.W.Frag} {H : Hp} {S : Sto} {t : T} {v : V} {b : Bool} {F : Sto} (hr : HW K F H S) (r : RpF K F H S t v) (e : truT S t = some b) : TruV K v H b := by
  cases r with
  | non => cases e; rfl
  | bl => cases e; rfl
  | int => cases e; rfl
  | str x =>
    simp only [truT] at e
    split at e
    · next h => cases e; exact ⟨h, rfl⟩
    · cases e
  | lst r n z l =>
    cases e
    exact .inl ⟨_, .inl (.inl r), by rw [l.isEmpty]⟩
  | tup r z l =>
    cases e
    exact .inr (.inl ⟨_, .inl (.inl r), by rw [l.isEmpty]⟩)
  | ref a =>
    simp only [truT] at e
    split at e
    · next ts h =>
      cases e
      obtain ⟨_, us, h1, l⟩ := hr.cell h
      exact .inl ⟨_, .inl (.inl h1), by rw [l.isEmpty]⟩
    · next ts h =>
      cases e
      obtain ⟨us, h1, l⟩ := hr.cell h
      exact .inr (.inr ⟨_, h1, by rw [RpK.isEmpty l]⟩)
    · cases e
  | arg h z =>
    cases e
    exact .inl ⟨_, h.seq, by simp⟩
/-- a value's truth -/
def wTru (w : WE) : WB := fun ρ S R => w ρ S fun t S' => ∃ b, truT S' t = some b ∧ R b S'
def wAnd (a b : WB) : WB := fun ρ S R => a ρ S fun c S1 => if c = true then b ρ S1 R else R false S1
def wOr (a b : WB) : WB := fun ρ S R => a ρ S fun c S1 => if c = true then R true S1 else b ρ S1 R
def wNot (a : WB) : WB := fun ρ S R => a ρ S fun c S1 => R (!c) S1
/-- the same as values -/
def wAndV (a b : WE) : WE := fun ρ S R => a ρ S fun x S1 => ∃ k, truT S1 x = some k ∧ if k = true then b ρ S1 R else R x S1
def wOrV (a b : WE) : WE := fun ρ S R => a ρ S fun x S1 => ∃ k, truT S1 x = some k ∧ if k = true then R x S1 else b ρ S1 R
def wNotV (a : WE) : WE := fun ρ S R => a ρ S fun x S1 => ∃ k, truT S1 x = some k ∧ R (.bl (!k)) S1
def wIfE (c : WB) (a b : WE) : WE := fun ρ S R => c ρ S fun k S1 => if k = true then a ρ S1 R else b ρ S1 R
section
variable {X : Cx} {a b c : Expr} {wa wb wc : WE} {ta tb tc : WB} {pos : Pos} {rest : List Expr}
theorem tb_tru (h : TX X a wa) (he : ∀ whole, isTrue a X.env whole = (do let v ← whole; standAt a.pos; holding [v] (truthy v)) := by intro _; rfl) : TB X a (wTru wa) :=
  ⟨PT.imp (pt_truth h.pe he) fun σ H Q ⟨F, ρ, S, R, he, hr, w', k⟩ => ⟨F, ρ, S, _, he, hr, w', fun t S' v H' e1 hr1 r1 ⟨b, h1, h2⟩ => ⟨b, truV_of hr1 r1 h1, k b S' H' e1 hr1 h2⟩⟩⟩
theorem tb_not (h : TB X a ta) : TB X (.UnaryOp .Not a pos) (wNot ta) :=
  ⟨PT.imp (pt_not h.pt) fun σ H Q ⟨F, ρ, S, R, he, hr, w', k⟩ => ⟨F, ρ, S, _, he, hr, w', fun b S' H' e1 hr1 h2 => k _ S' H' e1 hr1 h2⟩⟩
theorem tbw_and1 (h : TB X a ta) : TBW X (.BoolOp .And [a] pos) ta := ⟨pw_and1 h.pt⟩
theorem tbw_or1 (h : TB X a ta) : TBW X (.BoolOp .Or [a] pos) ta := ⟨pw_or1 h.pt⟩
theorem tbw_and (ha : TB X a ta) (hb : TBW X (.BoolOp .And (b :: rest) pos) tb) : TBW X (.BoolOp .And (a :: b :: rest) pos) (wAnd ta tb) :=
  ⟨PW.imp (pw_and ha.pt hb.pw) fun σ H Q ⟨F, ρ, S, R, he, hr, w', k⟩ => ⟨F, ρ, S, _, he, hr, w', fun c S' H' e1 hr1 h2 => by
    cases c with
    | true => exact ⟨F, ρ, S', R, he.ev e1, hr1, h2, fun d S2 H2 e2 hr2 q => k d S2 H2 (e1.trans e2) hr2 q⟩
    | false => exact k _ S' H' e1 hr1 h2⟩⟩
theorem tbw_or (ha : TB X a ta) (hb : TBW X (.BoolOp .Or (b :: rest) pos) tb) : TBW X (.BoolOp .Or (a :: b :: rest) pos) (wOr ta tb) :=
  ⟨PW.imp (pw_or ha.pt hb.pw) fun σ H Q ⟨F, ρ, S, R, he, hr, w', k⟩ => ⟨F, ρ, S, _, he, hr, w', fun c S' H' e1 hr1 h2 => by
    cases c with
    | false => exact ⟨F, ρ, S', R, he.ev e1, hr1, h2, fun d S2 H2 e2 hr2 q => k d S2 H2 (e1.trans e2) hr2 q⟩
    | true => exact k _ S' H' e1 hr1 h2⟩⟩
theorem tb_w (h : TBW X a ta) : TB X a ta := ⟨h.pw.pt⟩
theorem tx_one {op} (h : TX X a wa) : TX X (.BoolOp op [a] pos) wa := ⟨pe_one h.pe⟩
theorem tx_and (ha : TX X a wa) (hb : TX X (.BoolOp .And (b :: rest) pos) wb) : TX X (.BoolOp .And (a :: b :: rest) pos) (wAndV wa wb) :=
  ⟨PE.imp (pe_andT ha.pe hb.pe) fun σ H Q ⟨F, ρ, S, R, he, hr, w', k⟩ => ⟨F, ρ, S, _, he, hr, w', fun x S' v H' e1 hr1 r1 ⟨c, h1, h2⟩ => by
    refine ⟨c, truV_of hr1 r1 h1, ?_⟩
    cases c with
    | true => exact ⟨F, ρ, S', R, he.ev e1, hr1, h2, fun d S2 v2 H2 e2 hr2 r2 q => k d S2 v2 H2 (e1.trans e2) hr2 r2 q⟩
    | false => exact k _ S' v H' e1 hr1 r1 h2⟩⟩
theorem tx_or (ha : TX X a wa) (hb : TX X (.BoolOp .Or (b :: rest) pos) wb) : TX X (.BoolOp .Or (a :: b :: rest) pos) (wOrV wa wb) :=
  ⟨PE.imp (pe_orT ha.pe hb.pe) fun σ H Q ⟨F, ρ, S, R, he, hr, w', k⟩ => ⟨F, ρ, S, _, he, hr, w', fun x S' v H' e1 hr1 r1 ⟨c, h1, h2⟩ => by
    refine ⟨c, truV_of hr1 r1 h1, ?_⟩
    cases c with
    | false => exact ⟨F, ρ, S', R, he.ev e1, hr1, h2, fun d S2 v2 H2 e2 hr2 r2 q => k d S2 v2 H2 (e1.trans e2) hr2 r2 q⟩
    | true => exact k _ S' v H' e1 hr1 r1 h2⟩⟩
theorem tx_not (ha : TX X a wa) : TX X (.UnaryOp .Not a pos) (wNotV wa) :=
  ⟨PE.imp (pe_notT ha.pe) fun σ H Q ⟨F, ρ, S, R, he, hr, w', k⟩ => ⟨F, ρ, S, _, he, hr, w', fun x S' v H' e1 hr1 r1 ⟨c, h1, h2⟩ =>
    ⟨c, truV_of hr1 r1 h1, k _ S' _ H' e1 hr1 (.bl _) h2⟩⟩⟩
theorem tx_if (hc : TB X c tc) (ha : TX X a wa) (hb : TX X b wb) : TX X (.IfExp c a b pos) (wIfE tc wa wb) :=
  ⟨PE.imp (pe_ifExp hc.pt ha.pe hb.pe) fun σ H Q ⟨F, ρ, S, R, he, hr, w', k⟩ => ⟨F, ρ, S, _, he, hr, w', fun c S' H' e1 hr1 h2 => by
    cases c with
    | true => exact ⟨F, ρ, S', R, he.ev e1, hr1, h2, fun d S2 v2 H2 e2 hr2 r2 q => k d S2 v2 H2 (e1.trans e2) hr2 r2 q⟩
    | false => exact ⟨F, ρ, S', R, he.ev e1, hr1, h2, fun d S2 v2 H2 e2 hr2 r2 q => k d S2 v2 H2 (e1.trans e2) hr2 r2 q⟩⟩⟩
end
/-! ### arguments, displays, calls -/
def wNil : WA := fun _ S R => R [] S
def wCons (w : WE) (ws : WA) : WA := fun ρ S R => w ρ S fun x S1 => ws ρ S1 fun xs S2 => R (x :: xs) S2
def wTup (ws : WA) : WE := fun ρ S R => ws ρ S fun xs S1 => xs.length ≤ sizeLine ∧ R (.tup xs) S1
def wLst (ws : WA) : WE := fun ρ S R => ws ρ S fun xs S1 => xs.length ≤ sizeLine ∧ R (.lst xs) S1
def wCell (ws : WA) : WE := fun ρ S R => ws ρ S fun xs S1 => xs.length ≤ sizeLine ∧ ∀ a, S1 a = none → R (.ref a) (supd S1 a (.lst xs))
def wCall (o : List T → Sto → Post → Prop) (ws : WA) : WE := fun ρ S R => ws ρ S fun xs S1 => o xs S1 R
theorem sqt_at {K : PySem.W.Frag} {H : Hp} {p : Addr} {us : List V} : SqT K (upd H p (.tup us)) p us := .inl (.inl upd_same)
section
variable {X : Cx} {e : Expr} {es : List Expr} {w : WE} {ws : WA} {pos : Pos}
theorem ta_nil : TAs X [] wNil := ⟨PA.imp pa_nil fun σ H Q ⟨F, ρ, S, R, he, hr, w', k⟩ => k [] S [] H Ev.refl hr .nil w'⟩
theorem ta_cons (ha : TX X e w) (hs : TAs X es ws) (hst : starEach (e :: es) X.env = (false, eval e X.env) :: starEach es X.env := by rfl) : TAs X (e :: es) (wCons w ws) :=
  ⟨PA.imp (pa_cons ha.pe hs.pa hst) fun σ H Q ⟨F, ρ, S, R, he, hr, w', k⟩ => ⟨F, ρ, S, _, he, hr, w', fun x S1 v H1 e1 hr1 r1 h1 =>
    ⟨F, ρ, S1, _, he.ev e1, hr1, h1, fun xs S2 vs H2 e2 hr2 r2 h2 => k _ S2 _ H2 (e1.trans e2) hr2 (.cons (r1.ev e2) r2) h2⟩⟩⟩
theorem tx_tup {x1} (h : TAs X es ws) : TX X (.Tuple es x1 pos) (wTup ws) :=
  ⟨PE.imp (pe_tup h.pa) fun σ H Q ⟨F, ρ, S, R, he, hr, w', k⟩ => ⟨F, ρ, S, _, he, hr, w', fun xs S1 vs H1 e1 hr1 r1 ⟨z, h1⟩ =>
    ⟨by rw [← r1.length]; exact z, fun p hp => k _ S1 _ _ (e1.trans (Ev.laid hp)) (hr1.laid hp) (.tup upd_same z (r1.ev (Ev.laid hp))) h1⟩⟩⟩
theorem tx_lst (h : TAs X es ws) : TX X (.List es pos) (wLst ws) :=
  ⟨PE.imp (pe_lst h.pa) fun σ H Q ⟨F, ρ, S, R, he, hr, w', k⟩ => ⟨F, ρ, S, _, he, hr, w', fun xs S1 vs H1 e1 hr1 r1 ⟨z, h1⟩ =>
    ⟨by rw [← r1.length]; exact z, fun p hp => k _ S1 _ _ (e1.trans (Ev.laid hp)) (hr1.laid hp) (.lst upd_same (hr1.2.none hp) z (r1.ev (Ev.laid hp))) h1⟩⟩⟩
theorem tx_cell (h : TAs X es ws) : TX X (.List es pos) (wCell ws) :=
  ⟨PE.imp (pe_lst h.pa) fun σ H Q ⟨F, ρ, S, R, he, hr, w', k⟩ => ⟨F, ρ, S, _, he, hr, w', fun xs S1 vs H1 e1 hr1 r1 ⟨z, h1⟩ =>
    ⟨by rw [← r1.length]; exact z, fun p hp => k (.ref p) (supd S1 p (.lst xs)) _ _ (e1.trans (evf_new hr1 hp)) (hw_new hr1 hp ⟨z, vs, upd_same, r1.ev (evf_new hr1 hp)⟩) (.ref p) (h1 p (hr1.none hp))⟩⟩⟩
theorem up_call {K : PySem.W.Frag} {o : List T → Sto → Post → Prop} {r : List V → Hp → VK → Prop}
    (hT : ∀ F H S xs vs R Q, HW K F H S → RpLF K F H S xs vs → o xs S R → (∀ t S' v' H', EvF K F H S H' S' → HW K F H' S' → RpF K F H' S' t v' → R t S' → Q v' H') → r vs H Q) {σ : St} {H : Hp} {Q : VK}
    (h : up K (wCall o ws) σ H Q) : tCB r (upA K ws) σ H Q := by
  obtain ⟨F, ρ, S, R, he, hr, w', k⟩ := h
  exact ⟨F, ρ, S, _, he, hr, w', fun xs S1 vs H1 e1 hr1 r1 h1 => hT F H1 S1 xs vs R Q hr1 r1 h1 fun t S' v' H' e2 hr2 r2 q2 => k t S' v' H' (e1.trans e2) hr2 r2 q2⟩
theorem tx_callB {x : Str} {p : Pos} {id : String} {o : List T → Sto → Post → Prop} (hc : CallX X (.builtin id) o) (hg : Gl X x) (hm : X.mg x = none) (hv : bootBuiltins x = some (.builtin id)) (ha : TAs X (e :: es) ws) (hn : x ≠ "__name__" := by decide) (hdb : (x == ("__debug__" : Str)) = false := by decide)
    (he : starEach (e :: es) X.env = (false, eval e X.env) :: starEach es X.env := by rfl) (hpl : (backTo pos (starEach es X.env)).any (·.1) = false := by rfl) : TX X (.Call (.Name x p) (e :: es) [] pos) (wCall o ws) := by
  obtain ⟨r, h1, h2⟩ := hc
  exact ⟨PE.imp (pe_callB h1 hg hm hv ha.pa hn hdb he hpl) fun σ H Q h => up_call h2 h⟩
theorem tx_callTy {x : Str} {p : Pos} {id : String} {o : List T → Sto → Post → Prop} (hc : CallX X (.type id) o) (hg : Gl X x) (hm : X.mg x = none) (hv : bootBuiltins x = some (.type id)) (ha : TAs X (e :: es) ws) (hn : x ≠ "__name__" := by decide) (hdb : (x == ("__debug__" : Str)) = false := by decide)
    (he : starEach (e :: es) X.env = (false, eval e X.env) :: starEach es X.env := by rfl) (hpl : (backTo pos (starEach es X.env)).any (·.1) = false := by rfl) : TX X (.Call (.Name x p) (e :: es) [] pos) (wCall o ws) := by
  obtain ⟨r, h1, h2⟩ := hc
  exact ⟨PE.imp (pe_callTy h1 hg hm hv ha.pa hn hdb he hpl) fun σ H Q h => up_call h2 h⟩
/-- a list that is a cell becomes a tree: nobody changes it any more -/
def wFrz (w : WE) : WE := fun ρ S R => w ρ S fun t S1 => match t with
  | .ref a => ∃ ts, S1 a = some (.lst ts) ∧ R (.lst ts) (fun b => if b = a then none else S1 b)
  | _ => R t S1
theorem tx_frz (h : TX X e w) : TX X e (wFrz w) :=
  ⟨PE.imp h.pe fun σ H Q ⟨F, ρ, S, R, he, hr, w', k⟩ => ⟨F, ρ, S, _, he, hr, w', fun t S1 v H1 e1 hr1 r1 h1 => by
    cases r1 with
    | ref a =>
      obtain ⟨ts, h2, h3⟩ := h1
      obtain ⟨z, us, h4, h5⟩ := hr1.cell h2
      have sb : Sub (fun b => if b = a then none else S1 b) S1 := fun b c q => by
        simp only at q
        split at q
        · cases q
        · exact q
      exact k _ _ _ _ (e1.trans (EvF.sub sb)) (hr1.sub sb) (.lst h4 ((mix_of (hr1.1 a _ h2)).trans (if_pos rfl)) z (h5.ev (EvF.sub sb))) h3
    | non => exact k _ _ _ _ e1 hr1 .non h1
    | bl b => exact k _ _ _ _ e1 hr1 (.bl b) h1
    | int b => exact k _ _ _ _ e1 hr1 (.int b) h1
    | str b => exact k _ _ _ _ e1 hr1 (.str b) h1
    | lst a b c d => exact k _ _ _ _ e1 hr1 (.lst a b c d) h1
    | tup a b c => exact k _ _ _ _ e1 hr1 (.tup a b c) h1
    | arg a b => exact k _ _ _ _ e1 hr1 (.arg a b) h1⟩⟩
end
end TL

set_option Elab.async false
set_option linter.all false
set_option maxRecDepth 100000
set_option maxHeartbeats 4000000
/-! TL3: statements, targets, loops, comprehensions, defs. -/
namespace TL
open PySem L2
structure EndsT where
  nx : Sl → Sto → Prop
  rt : Post
  bk : Sl → Sto → Prop := fun _ _ => False
  ct : Sl → Sto → Prop := fun _ _ => False
abbrev WS := EndsT → Sl → Sto → Prop
/-- the wishes at trees give those at the heap -/
structure Lk (K : PySem.W.Frag) (F : Sto) (H : Hp) (S : Sto) (E : EndsT) (D : Ends) : Prop where
  nx : ∀ ρ S' σ H', EvF K F H S H' S' → HW K F H' S' → EnvF K F H' S' ρ σ → E.nx ρ S' → D.nx σ H'
  rt : ∀ t S' v H', EvF K F H S H' S' → HW K F H' S' → RpF K F H' S' t v → E.rt t S' → D.rt v H'
  bk : ∀ ρ S' σ H', EvF K F H S H' S' → HW K F H' S' → EnvF K F H' S' ρ σ → E.bk ρ S' → D.bk σ H'
  ct : ∀ ρ S' σ H', EvF K F H S H' S' → HW K F H' S' → EnvF K F H' S' ρ σ → E.ct ρ S' → D.ct σ H'
theorem Lk.ev {K : PySem.W.Frag} {H H1 : Hp} {F S S1 : Sto} {E : EndsT} {D : Ends} (l : Lk K F H S E D) (e : EvF K F H S H1 S1) : Lk K F H1 S1 E D :=
  ⟨fun ρ S' σ H' e' => l.nx ρ S' σ H' (e.trans e'), fun t S' v H' e' => l.rt t S' v H' (e.trans e'), fun ρ S' σ H' e' => l.bk ρ S' σ H' (e.trans e'), fun ρ S' σ H' e' => l.ct ρ S' σ H' (e.trans e')⟩
def upS (K : PySem.W.Frag) (w : WS) : TS := fun D σ H => ∃ F ρ S E, EnvF K F H S ρ σ ∧ HW K F H S ∧ w E ρ S ∧ Lk K F H S E D
structure TSt (X : Cx) (st : Stmt) (w : WS) : Prop where
  ps : PS X st (upS X.K w)
structure TSs (X : Cx) (sts : List Stmt) (w : WS) : Prop where
  pss : PSs X sts (upS X.K w)
def sNext : WS := fun E ρ S => E.nx ρ S
def sSeq (a b : WS) : WS := fun E ρ S => a { E with nx := fun ρ' S' => b E ρ' S' } ρ S
def sDrop (w : WE) : WS := fun E ρ S => w ρ S fun _ S' => E.nx ρ S'
def sRet (w : WE) : WS := fun E ρ S => w ρ S E.rt
def sRetN : WS := fun E _ S => E.rt .non S
def sIf (c : WB) (a b : WS) : WS := fun E ρ S => c ρ S fun k S1 => if k = true then a E ρ S1 else b E ρ S1
def sSet (i : Nat) (w : WE) : WS := fun E ρ S => w ρ S fun t S' => E.nx (ρ.set i (some t)) S'
def sBrk : WS := fun E ρ S => E.bk ρ S
def sCont : WS := fun E ρ S => E.ct ρ S
section
variable {X : Cx} {st : Stmt} {sts : List Stmt} {a b : WS} {e c : Expr} {w : WE} {tc : WB} {pos : Pos}
theorem tss_nil : TSs X [] sNext := ⟨PSs.imp pss_nil fun D σ H ⟨F, ρ, S, E, he, hr, w', l⟩ => l.nx ρ S σ H Ev.refl hr he w'⟩
theorem tss_one (h : TSt X st a) : TSs X [st] a := ⟨pss_one h.ps⟩
theorem tss_cons (h : TSt X st a) (hs : TSs X sts b) : TSs X (st :: sts) (sSeq a b) :=
  ⟨PSs.imp (pss_cons h.ps hs.pss) fun D σ H ⟨F, ρ, S, E, he, hr, w', l⟩ => ⟨F, ρ, S, _, he, hr, w', ⟨fun ρ' S' σ' H' e1 hr1 he1 q => ⟨F, ρ', S', E, he1, hr1, q, l.ev e1⟩, l.rt, l.bk, l.ct⟩⟩⟩
theorem ts_pass : TSt X (.Pass pos) sNext := ⟨PS.imp ps_pass fun D σ H ⟨F, ρ, S, E, he, hr, w', l⟩ => l.nx ρ S σ H Ev.refl hr he w'⟩
theorem ts_break : TSt X (.Break pos) sBrk := ⟨PS.imp ps_break fun D σ H ⟨F, ρ, S, E, he, hr, w', l⟩ => l.bk ρ S σ H Ev.refl hr he w'⟩
theorem ts_cont : TSt X (.Continue pos) sCont := ⟨PS.imp ps_continue fun D σ H ⟨F, ρ, S, E, he, hr, w', l⟩ => l.ct ρ S σ H Ev.refl hr he w'⟩
theorem ts_expr (h : TX X e w) (hs : swapsWith e none pos.line X.env = pure false := by rfl) : TSt X (.Expr e pos) (sDrop w) :=
  ⟨PS.imp (ps_expr h.pe hs) fun D σ H ⟨F, ρ, S, E, he, hr, w', l⟩ => ⟨F, ρ, S, _, he, hr, w', fun t S' v H' e1 hr1 r1 q => l.nx ρ S' σ H' e1 hr1 (he.ev e1) q⟩⟩
theorem ts_ret (h : TX X e w) : TSt X (.Return (some e) pos) (sRet w) :=
  ⟨PS.imp (ps_ret h.pe) fun D σ H ⟨F, ρ, S, E, he, hr, w', l⟩ => ⟨F, ρ, S, _, he, hr, w', fun t S' v H' e1 hr1 r1 q => l.rt t S' v H' e1 hr1 r1 q⟩⟩
theorem ts_retN : TSt X (.Return none pos) sRetN := ⟨PS.imp ps_retN fun D σ H ⟨F, ρ, S, E, he, hr, w', l⟩ => l.rt .non S .non H Ev.refl hr .non w'⟩
theorem ts_if {xs ys : List Stmt} (hc : TB X c tc) (ha : TSs X xs a) (hb : TSs X ys b) : TSt X (.If c xs ys pos) (sIf tc a b) :=
  ⟨PS.imp (ps_if hc.pt ha.pss hb.pss) fun D σ H ⟨F, ρ, S, E, he, hr, w', l⟩ => ⟨F, ρ, S, _, he, hr, w', fun k S' H' e1 hr1 q => by
    cases k with
    | true => exact ⟨F, ρ, S', E, he.ev e1, hr1, q, l.ev e1⟩
    | false => exact ⟨F, ρ, S', E, he.ev e1, hr1, q, l.ev e1⟩⟩⟩
theorem ts_set {i : Nat} {x : Str} {pos' : Pos} (hN : X.N.Nodup) (hi : X.N[i]? = some x) (hx : Loc X.env.scope x) (h : TX X e w) (hs : swapsWith e (some (.Name x pos')) pos.line X.env = pure false := by rfl) (hf : X.fn x = true ∨ X.env.scope.names.lookup x = some .local := by first | exact .inl rfl | exact .inr rfl | assumption) :
    TSt X (.Assign [.Name x pos'] e pos) (sSet i w) :=
  ⟨PS.imp (ps_set hN hi hx h.pe hs hf) fun D σ H ⟨F, ρ, S, E, he, hr, w', l⟩ => ⟨F, ρ, S, _, he, hr, w', fun t S' v H' e1 hr1 r1 q => l.nx _ S' _ H' e1 hr1 ((he.ev e1).set r1 i) q⟩⟩
end
/-! ### targets: names and tuples of names -/
mutual
inductive Tg where
  | nm (i : Nat) | tp (ts : Tgs)
inductive Tgs where
  | nil | cons (t : Tg) (ts : Tgs)
end
mutual
def Tg.tg (K : PySem.W.Frag) : Tg → TG
  | .nm i => gName i
  | .tp ts => gTup K ts.len (ts.tgs K)
def Tgs.tgs (K : PySem.W.Frag) : Tgs → TGs
  | .nil => gNil
  | .cons t ts => gCons (t.tg K) (ts.tgs K)
def Tgs.len : Tgs → Nat
  | .nil => 0
  | .cons _ ts => ts.len + 1
end
mutual
def asg : Tg → T → Sl → Option Sl
  | .nm i, t, ρ => some (ρ.set i (some t))
  | .tp ts, t, ρ => match t with
    | .tup xs => asgs ts xs ρ
    | _ => none
def asgs : Tgs → List T → Sl → Option Sl
  | .nil, [], ρ => some ρ
  | .cons t ts, x :: xs, ρ => match asg t x ρ with
    | some ρ' => asgs ts xs ρ'
    | none => none
  | _, _, _ => none
end
mutual
def Tg.vars : Tg → List Nat
  | .nm i => [i]
  | .tp ts => ts.vars
def Tgs.vars : Tgs → List Nat
  | .nil => []
  | .cons t ts => t.vars ++ ts.vars
end
def OnlyAt (vs : List Nat) (σ σ' : St) : Prop := σ.length = σ'.length ∧ ∀ i, i ∉ vs → σ'[i]? = σ[i]?
theorem asgs_len : ∀ {ts : Tgs} {xs : List T} {ρ ρ' : Sl}, asgs ts xs ρ = some ρ' → xs.length = ts.len
  | .nil, [], _, _, _ => rfl
  | .nil, _ :: _, _, _, h => by simp [asgs] at h
  | .cons _ _, [], _, _, h => by simp [asgs] at h
  | .cons t ts, x :: xs, ρ, ρ', h => by
    simp only [asgs] at h
    split at h
    · rw [List.length_cons, asgs_len h]; rfl
    · cases h
section
variable {K : PySem.W.Frag} {H : Hp} {S : Sto}
mutual
theorem asg_ok : ∀ {tg : Tg} {t : T} {v : V} {ρ ρ' : Sl} {σ : St} {Q : St → Hp → Prop}, Rp K H S t v → EnvR K H S ρ σ → asg tg t ρ = some ρ' → (∀ σ', EnvR K H S ρ' σ' → OnlyAt tg.vars σ σ' → Q σ' H) → tg.tg K v σ H Q
  | .nm i, t, v, ρ, ρ', σ, Q, r, he, h, k => by
    simp only [asg] at h
    cases h
    refine k _ (he.set r i) ⟨by simp, fun j hj => ?_⟩
    have : i ≠ j := fun e => hj (by simp [Tg.vars, e])
    rw [List.getElem?_set_ne this]
  | .tp ts, t, v, ρ, ρ', σ, Q, r, he, h, k => by
    cases r with
    | tup s z l =>
      simp only [asg] at h
      refine ⟨_, _, rfl, .inl (.inl s), ?_, asgs_ok l he h k⟩
      rw [← l.length]
      exact asgs_len h
    | _ => simp [asg] at h
theorem asgs_ok : ∀ {tg : Tgs} {ts : List T} {vs : List V} {ρ ρ' : Sl} {σ : St} {Q : St → Hp → Prop}, RpL K H S ts vs → EnvR K H S ρ σ → asgs tg ts ρ = some ρ' → (∀ σ', EnvR K H S ρ' σ' → OnlyAt tg.vars σ σ' → Q σ' H) → tg.tgs K vs σ H Q
  | .nil, [], _, ρ, ρ', σ, Q, r, he, h, k => by
    cases r
    simp only [asgs] at h
    cases h
    exact ⟨rfl, k _ he ⟨rfl, fun _ _ => rfl⟩⟩
  | .nil, _ :: _, _, ρ, ρ', σ, Q, r, he, h, k => by simp [asgs] at h
  | .cons _ _, [], _, ρ, ρ', σ, Q, r, he, h, k => by simp [asgs] at h
  | .cons t ts, x :: xs, _, ρ, ρ', σ, Q, r, he, h, k => by
    cases r with
    | cons r1 r2 =>
      simp only [asgs] at h
      split at h
      · next ρ1 h1 =>
        refine ⟨_, _, rfl, asg_ok r1 he h1 fun σ1 he1 o1 => asgs_ok r2 he1 h fun σ2 he2 o2 => k σ2 he2 ⟨o1.1.trans o2.1, fun i hi => ?_⟩⟩
        rw [Tgs.vars, List.mem_append, not_or] at hi
        rw [o2.2 i hi.2, o1.2 i hi.1]
      · cases h
end
end
/-- t = e, t a name or a tuple of names -/
def sAsg (tg : Tg) (w : WE) : WS := fun E ρ S => w ρ S fun t S' => ∃ ρ', asg tg t ρ = some ρ' ∧ E.nx ρ' S'
section
variable {X : Cx} {e tgt : Expr} {w : WE} {pos : Pos}
theorem ts_asg {tg : Tg} (h : TX X e w) (hg : PG X tgt (tg.tg X.K)) (hs : swapsWithSole [tgt] e pos.line X.env = pure false := by rfl) (hw : swappedStores [tgt] e X.env = pure none := by rfl)
    (h1 : (assignEach [tgt] X.env).map (·.2) = [assign tgt X.env] := by rfl) : TSt X (.Assign [tgt] e pos) (sAsg tg w) :=
  ⟨PS.imp (ps_asg h.pe hg hs hw h1) fun D σ H ⟨F, ρ, S, E, he, hr, w', l⟩ => ⟨F, ρ, S, _, he, hr, w', fun t S' v H' e1 hr1 r1 ⟨ρ', h2, q⟩ =>
    asg_ok r1 (he.ev e1) h2 fun σ' he2 _ => l.nx ρ' S' σ' H' e1 hr1 he2 q⟩⟩
end
/-! ### what is walked -/
structure Goes (K : PySem.W.Frag) (F : Sto) (J : It) (ts : List T) (H : Hp) (S : Sto) : Prop where
  go : ∀ F1 H1 S1, Ev K H (mix S F) H1 (mix S1 F1) → ∀ i, i < ts.length → J.go i H1
  stop : ∀ F1 H1 S1, Ev K H (mix S F) H1 (mix S1 F1) → J.stop ts.length H1
  yld : ∀ F1 H1 S1, Ev K H (mix S F) H1 (mix S1 F1) → HW K F1 H1 S1 → ∀ i x H2, i < ts.length → J.yld i H1 x H2 → ∃ t, ts[i]? = some t ∧ EvF K F1 H1 S1 H2 S1 ∧ HW K F1 H2 S1 ∧ RpF K F1 H2 S1 t x
def upI (K : PySem.W.Frag) (w : WA) : L2.TI := fun σ H R' => ∃ F ρ S R, EnvF K F H S ρ σ ∧ HW K F H S ∧ w ρ S R ∧ ∀ ts S' H' J, EvF K F H S H' S' → HW K F H' S' → Goes K F J ts H' S' → R ts S' → R' J H'
structure TIt (X : Cx) (tg iter : Expr) (w : WA) : Prop where
  pi : PI X tg iter (upI X.K w)
theorem PI.imp {X : Cx} {tg e : Expr} {t t' : L2.TI} (h : PI X tg e t) (f : ∀ σ H Q, t' σ H Q → t σ H Q) : PI X tg e t' := ⟨fun pins s σ H Q I q => h.run pins s σ H Q I (f _ _ _ q)⟩
def loopT (tg : Tg) (wb : WS) : List T → EndsT → Sl → Sto → Prop
  | [], E, ρ, S => E.nx ρ S
  | t :: ts, E, ρ, S => ∃ ρ1, asg tg t ρ = some ρ1 ∧ wb { E with nx := loopT tg wb ts E, ct := loopT tg wb ts E, bk := E.nx } ρ1 S
def sFor (wi : WA) (tg : Tg) (wb : WS) : WS := fun E ρ S => wi ρ S fun ts S1 => loopT tg wb ts E ρ S1
theorem drop_at {α : Type} : ∀ {ts : List α} {i : Nat} {t : α}, ts[i]? = some t → ts.drop i = t :: ts.drop (i + 1)
  | [], _, _, h => by simp at h
  | x :: xs, 0, t, h => by simp at h; subst h; rfl
  | x :: xs, i + 1, t, h => by
    have ih := drop_at (ts := xs) (i := i) (t := t) (by simpa using h)
    simpa using ih
section
variable {X : Cx} {tgt iter : Expr} {wi : WA} {tg : Tg} {wb : WS} {pos : Pos} {body : List Stmt}
theorem ts_for (hp : PassesOwn (model X.prog X.w) X.A X.env X.xe) (hc : X.calm = true) (hi : TIt X tgt iter wi) (hg : PG X tgt (tg.tg X.K)) (hb : TSs X body wb)
    (hs : ∀ x, foldedSetIterable iter X.env x = pure x := by intro _; rfl) : TSt X (.For tgt iter body [] pos) (sFor wi tg wb) := by
  refine ⟨PS.imp (ps_for hp hc hi.pi hg hb.pss hs) fun D σ H ⟨F, ρ, S, E, he, hr, w', l⟩ => ?_⟩
  refine ⟨F, ρ, S, _, he, hr, w', fun ts S1 H1 J e1 hr1 G q => ?_⟩
  refine ⟨fun i m σ2 H2 => m = ts.length - i ∧ i ≤ ts.length ∧ ∃ ρ2 S2, EvF X.K F H1 S1 H2 S2 ∧ HW X.K F H2 S2 ∧ EnvF X.K F H2 S2 ρ2 σ2 ∧ loopT tg wb (ts.drop i) E ρ2 S2, ⟨ts.length, by simp, Nat.zero_le _, ρ, S1, Ev.refl, hr1, he.ev e1, by simpa using q⟩, ?_⟩
  rintro i m σ2 H2 ⟨rfl, hil, ρ2, S2, e2, hr2, he2, q2⟩
  by_cases hlt : i < ts.length
  · refine .inr ⟨G.go F H2 S2 e2 i hlt, fun σ3 H3 => ∃ ρ3 S3, EvF X.K F H1 S1 H3 S3 ∧ HW X.K F H3 S3 ∧ EnvF X.K F H3 S3 ρ3 σ3 ∧ loopT tg wb (ts.drop (i + 1)) E ρ3 S3,
      fun σ3 H3 n => ⟨ts.length - (i + 1), by omega, rfl, hlt, n⟩, fun x H3 y => ?_⟩
    obtain ⟨t, ht, e3, hr3, r3⟩ := G.yld F H2 S2 e2 hr2 i x H3 hlt y
    rw [drop_at ht] at q2
    obtain ⟨ρ3, ha, q3⟩ := q2
    refine asg_ok r3 (he2.ev e3) ha fun σ3 he3 _ => ⟨F, ρ3, S2, _, he3, hr3, q3, ?_⟩
    have e13 := e2.trans e3
    exact ⟨fun ρ4 S4 σ4 H4 e4 hr4 he4 q4 => ⟨ρ4, S4, e13.trans e4, hr4, he4, q4⟩, fun t4 S4 v4 H4 e4 hr4 r4 q4 => l.rt t4 S4 v4 H4 ((e1.trans e13).trans e4) hr4 r4 q4,
      fun ρ4 S4 σ4 H4 e4 hr4 he4 q4 => l.nx ρ4 S4 σ4 H4 ((e1.trans e13).trans e4) hr4 he4 q4, fun ρ4 S4 σ4 H4 e4 hr4 he4 q4 => ⟨ρ4, S4, e13.trans e4, hr4, he4, q4⟩⟩
  · have e : i = ts.length := by omega
    subst e
    refine .inl ⟨G.stop F H2 S2 e2, ?_⟩
    rw [List.drop_length] at q2
    exact l.nx ρ2 S2 σ2 H2 (e1.trans e2) hr2 he2 q2
end
/-! ### while -/
def sWhile (c : WB) (wb : WS) : WS := fun E ρ S => ∃ W : Nat → Sl → Sto → Prop, (∃ m, W m ρ S) ∧ ∀ m ρ S, W m ρ S →
  c ρ S fun k S1 => if k = true then wb { E with nx := fun ρ' S' => ∃ m', m' < m ∧ W m' ρ' S', ct := fun ρ' S' => ∃ m', m' < m ∧ W m' ρ' S', bk := E.nx } ρ S1 else E.nx ρ S1
theorem ts_while {X : Cx} {c : Expr} {body : List Stmt} {tc : WB} {wb : WS} {pos : Pos} (hp : PassesOwn (model X.prog X.w) X.A X.env X.xe) (hc : TB X c tc) (hb : TSs X body wb) : TSt X (.While c body [] pos) (sWhile tc wb) := by
  refine ⟨PS.imp (ps_while hp hc.pt hb.pss) fun D σ H ⟨F, ρ, S, E, he, hr, ⟨W, ⟨m0, w0⟩, turn⟩, l⟩ => ?_⟩
  refine ⟨fun m σ1 H1 => ∃ ρ1 S1, EvF X.K F H S H1 S1 ∧ HW X.K F H1 S1 ∧ EnvF X.K F H1 S1 ρ1 σ1 ∧ W m ρ1 S1, ⟨m0, ρ, S, Ev.refl, hr, he, w0⟩, ?_⟩
  rintro m σ1 H1 ⟨ρ1, S1, e1, hr1, he1, w1⟩
  refine ⟨F, ρ1, S1, _, he1, hr1, turn m ρ1 S1 w1, fun k S2 H2 e2 hr2 q => ?_⟩
  cases k with
  | false => exact l.nx ρ1 S2 σ1 H2 (e1.trans e2) hr2 (he1.ev e2) q
  | true =>
    simp only [if_true] at q ⊢
    have e12 := e1.trans e2
    refine ⟨fun σ3 H3 => ∃ m', m' < m ∧ ∃ ρ3 S3, EvF X.K F H S H3 S3 ∧ HW X.K F H3 S3 ∧ EnvF X.K F H3 S3 ρ3 σ3 ∧ W m' ρ3 S3, fun σ3 H3 ⟨m', hm, n⟩ => ⟨m', hm, n⟩, F, ρ1, S2, _, he1.ev e2, hr2, q, ?_⟩
    exact ⟨fun ρ4 S4 σ4 H4 e4 hr4 he4 ⟨m', hm, q4⟩ => ⟨m', hm, ρ4, S4, e12.trans e4, hr4, he4, q4⟩, fun t4 S4 v4 H4 e4 hr4 r4 q4 => l.rt t4 S4 v4 H4 (e12.trans e4) hr4 r4 q4,
      fun ρ4 S4 σ4 H4 e4 hr4 he4 q4 => l.nx ρ4 S4 σ4 H4 (e12.trans e4) hr4 he4 q4, fun ρ4 S4 σ4 H4 e4 hr4 he4 ⟨m', hm, q4⟩ => ⟨m', hm, ρ4, S4, e12.trans e4, hr4, he4, q4⟩⟩
/-! ### comprehensions -/
def wipeT (ρ : Sl) : List Nat → Sl
  | [] => ρ
  | v :: vs => (wipeT ρ vs).set v none
theorem EnvR.wipe {K : PySem.W.Frag} {H : Hp} {S : Sto} {ρ : Sl} {σ : St} (h : EnvR K H S ρ σ) : ∀ vs, EnvR K H S (wipeT ρ vs) (wipe σ vs)
  | [] => h
  | v :: vs => Paired.set (x := none) (y := none) trivial v (EnvR.wipe h vs)
theorem wipe_only {vs : List Nat} {us : List Nat} (hu : ∀ i ∈ us, i ∈ vs) {σ σ' : St} (o : OnlyAt us (wipe σ vs) σ') : wipe σ' vs = wipe σ vs := by
  have key : ∀ (vs : List Nat) (σ : St) (i : Nat), (wipe σ vs)[i]? = if i ∈ vs ∧ i < σ.length then some none else σ[i]? := by
    intro vs
    induction vs with
    | nil => intro σ i; simp [wipe]
    | cons v vs ih =>
      intro σ i
      show ((wipe σ vs).set v none)[i]? = _
      rw [List.getElem?_set, wipe_length, ih]
      by_cases hv : v = i
      · subst hv
        by_cases hl : v < σ.length
        · simp [hl]
        · simp [hl, List.getElem?_eq_none (Nat.le_of_not_lt hl)]
      · rw [if_neg hv]
        have : (i ∈ v :: vs ∧ i < σ.length) ↔ (i ∈ vs ∧ i < σ.length) := by
          simp only [List.mem_cons]
          constructor
          · rintro ⟨h | h, k⟩
            · exact absurd h.symm hv
            · exact ⟨h, k⟩
          · rintro ⟨h, k⟩
            exact ⟨.inr h, k⟩
        simp only [this]
  apply List.ext_getElem?
  intro i
  rw [key, key]
  have hl : σ'.length = σ.length := by rw [← o.1, wipe_length]
  rw [hl]
  split
  · rfl
  · next h =>
    by_cases hi : i ∈ vs
    · have hh : ¬ i < σ.length := fun q => h ⟨hi, q⟩
      rw [List.getElem?_eq_none (by omega), List.getElem?_eq_none (by omega)]
    · rw [o.2 i fun q => hi (hu i q), key, if_neg h]
structure TBs (X : Cx) (ifs : List Expr) (w : WB) : Prop where
  pts : PTs X ifs (upB X.K w)
def wYes : WB := fun _ S R => R true S
theorem tbs_nil {X : Cx} : TBs X [] wYes := ⟨⟨fun pins s σ H Q I ⟨F, ρ, S, R, he, hr, w', k⟩ => pts_nil.run pins s σ H Q I (k true S H Ev.refl hr w')⟩⟩
theorem tbs_one {X : Cx} {c : Expr} {w : WB} (h : TB X c w) : TBs X [c] w := ⟨pts_one h.pt⟩
def lcT (tg : Tg) (tt : WB) (we : WE) (ρ : Sl) : List T → List T → Sto → (List T → Sto → Prop) → Prop
  | [], acc, S, R => R acc S
  | t :: ts, acc, S, R => ∃ ρ1, asg tg t ρ = some ρ1 ∧ tt ρ1 S fun b S1 => if b = true then we ρ1 S1 fun y S2 => lcT tg tt we ρ ts (acc ++ [y]) S2 R else lcT tg tt we ρ ts acc S1 R
def wLc (wi : WA) (tg : Tg) (tt : WB) (we : WE) (vs : List Nat) : WE := fun ρ S R => wi ρ S fun ts S1 => ts.length ≤ sizeLine ∧ lcT tg tt we (wipeT ρ vs) ts [] S1 fun acc S2 => R (.lst acc) S2
/-- the same, the new list a cell -/
def wLcC (wi : WA) (tg : Tg) (tt : WB) (we : WE) (vs : List Nat) : WE := fun ρ S R => wi ρ S fun ts S1 => ts.length ≤ sizeLine ∧ lcT tg tt we (wipeT ρ vs) ts [] S1 fun acc S2 => ∀ a, S2 a = none → R (.ref a) (supd S2 a (.lst acc))
theorem lc_up {K : PySem.W.Frag} {wi : WA} {tg : Tg} {tt : WB} {we : WE} {vs : List Nat} (hv : ∀ i ∈ tg.vars, i ∈ vs) {σ : St} {F : Sto} {H : Hp} {Q : VK} {ρ : Sl} {S : Sto} {R : List T → Sto → Prop} (he : EnvF K F H S ρ σ) (hr : HW K F H S)
    (w : wi ρ S fun ts S1 => ts.length ≤ sizeLine ∧ lcT tg tt we (wipeT ρ vs) ts [] S1 R)
    (k : ∀ acc S' H' D, Ev K H (mix S F) H' (mix S' (supd F D (.lst acc))) → HW K (supd F D (.lst acc)) H' S' → S' D = none → F D = none → R acc S' → Q (.ref D) H') :
    tLc (upI K wi) (tg.tg K) (upB K tt) (up K we) vs σ H Q := by
  refine ⟨F, ρ, S, _, he, hr, w, fun ts S1 H1 J e1 hr1 G ⟨hz, q⟩ => fun D hD => ?_⟩
  have fD : F D = none := hr1.noneF hD
  have sD : S1 D = none := hr1.none hD
  -- D stands in the frame while the list grows
  have ev0 : Ev K H1 (mix S1 F) (upd H1 D (.lst [])) (mix S1 (supd F D (.lst []))) := by
    rw [mix_fr sD]; exact ev_new hr1.2 hD
  have hr0 : HW K (supd F D (.lst [])) (upd H1 D (.lst [])) S1 := by
    refine ⟨hr1.1.fr sD, ?_⟩
    rw [mix_fr sD]
    exact hr_new hr1.2 hD ⟨Nat.zero_le _, [], upd_same, .nil⟩
  refine ⟨fun i m H2 => m = ts.length - i ∧ i ≤ ts.length ∧ ∃ acc S2, Ev K H1 (mix S1 F) H2 (mix S2 (supd F D (.lst acc))) ∧ HW K (supd F D (.lst acc)) H2 S2 ∧ acc.length ≤ i ∧ lcT tg tt we (wipeT ρ vs) (ts.drop i) acc S2 R,
    ⟨ts.length, by simp, Nat.zero_le _, [], S1, ev0, hr0, Nat.le_refl _, by simpa using q⟩, ?_⟩
  rintro i m H2 ⟨rfl, hil, acc, S2, e2, hr2, hal, q2⟩
  by_cases hlt : i < ts.length
  · refine .inr ⟨G.go _ H2 S2 e2 i hlt, fun H3 => ∃ acc S3, Ev K H1 (mix S1 F) H3 (mix S3 (supd F D (.lst acc))) ∧ HW K (supd F D (.lst acc)) H3 S3 ∧ acc.length ≤ i + 1 ∧ lcT tg tt we (wipeT ρ vs) (ts.drop (i + 1)) acc S3 R,
      fun H3 n => ⟨ts.length - (i + 1), by omega, rfl, hlt, n⟩, fun x H3 y => ?_⟩
    obtain ⟨t, ht, e3, hr3, r3⟩ := G.yld _ H2 S2 e2 hr2 i x H3 hlt y
    rw [drop_at ht] at q2
    obtain ⟨ρ3, ha, q3⟩ := q2
    have he3 : EnvF K (supd F D (.lst acc)) H3 S2 (wipeT ρ vs) (wipe σ vs) := (((he.ev e1).ev e2).ev e3).wipe vs
    refine asg_ok r3 he3 ha fun σ3 he3' o3 => ⟨wipe_only hv o3, _, ρ3, S2, _, he3', hr3, q3, fun b S4 H4 e4 hr4 q4 => ?_⟩
    have e14 := (e2.trans e3).trans e4
    cases b with
    | false =>
      simp only [Bool.false_eq_true, if_false] at q4 ⊢
      exact ⟨acc, S4, e14, hr4, by omega, q4⟩
    | true =>
      simp only [if_true] at q4 ⊢
      refine ⟨_, ρ3, S4, _, he3'.ev e4, hr4, q4, fun z S5 v5 H5 e5 hr5 r5 q5 => ?_⟩
      have e15 := e14.trans e5
      have sD5 : S5 D = none := by
        cases q : S5 D with
        | none => rfl
        | some c => have := hr5.1 D c q; rw [supd_same] at this; cases this
      have m5 : mix S5 (supd F D (.lst acc)) D = some (.lst acc) := by unfold mix; rw [supd_same]
      obtain ⟨z5, us, hD5, l5⟩ := hr5.2 D _ m5
      refine ⟨us, hD5, by rw [← l5.length]; omega, acc ++ [z], S5, ?_, ?_, by simp; omega, q5⟩
      · have em : mix S5 (supd F D (.lst (acc ++ [z]))) = supd (mix S5 (supd F D (.lst acc))) D (.lst (acc ++ [z])) := by
          funext b
          by_cases e : b = D
          · subst e; rw [supd_same]; unfold mix; rw [supd_same]
          · rw [supd_ne e]; unfold mix; rw [supd_ne e, supd_ne e]
        rw [em]
        exact e15.trans (ev_cell hr5.2 (by rw [m5]; rfl))
      · have em : mix S5 (supd F D (.lst (acc ++ [z]))) = supd (mix S5 (supd F D (.lst acc))) D (.lst (acc ++ [z])) := by
          funext b
          by_cases e : b = D
          · subst e; rw [supd_same]; unfold mix; rw [supd_same]
          · rw [supd_ne e]; unfold mix; rw [supd_ne e, supd_ne e]
        refine ⟨Dj.fr (fun a c e => ?_) sD5, ?_⟩
        · have := hr5.1 a c e
          unfold supd at this
          split at this
          · cases this
          · exact this
        · rw [em]
          have ev : Ev K H5 (mix S5 (supd F D (.lst acc))) (upd H5 D (.lst (us ++ [v5]))) (supd (mix S5 (supd F D (.lst acc))) D (.lst (acc ++ [z]))) := ev_cell hr5.2 (by rw [m5]; rfl)
          exact hr_cell hr5.2 (by rw [m5]; rfl) ⟨by simp; omega, _, upd_same, (l5.append (.cons r5 .nil)).ev ev⟩
  · have e : i = ts.length := by omega
    subst e
    refine .inl ⟨G.stop _ H2 S2 e2, ?_⟩
    rw [List.drop_length] at q2
    have sD2 : S2 D = none := by
      cases q : S2 D with
      | none => rfl
      | some c => have := hr2.1 D c q; rw [supd_same] at this; cases this
    exact k acc S2 H2 D (e1.trans e2) hr2 sD2 fD q2
theorem Dj.unfr {S F : Sto} {D : Addr} {c : Cell} (h : Dj S (TL.supd F D c)) : Dj S F := fun a k e => by
  have := h a k e
  unfold TL.supd at this
  split at this
  · cases this
  · exact this
/-- the list at D, done: nobody changes it any more -/
theorem fr_lst {K : PySem.W.Frag} {H : Hp} {S F : Sto} {D : Addr} {acc : List T} (hr : HW K (supd F D (.lst acc)) H S) (sD : S D = none) (fD : F D = none) :
    Ev K H (mix S (supd F D (.lst acc))) H (mix S F) ∧ HW K F H S ∧ RpF K F H S (.lst acc) (.ref D) := by
  have m2 : mix S (supd F D (.lst acc)) D = some (.lst acc) := by unfold mix; rw [supd_same]
  obtain ⟨z2, us, hD2, l2⟩ := hr.2 D _ m2
  have sb : Sub (mix S F) (mix S (supd F D (.lst acc))) := fun a c e => by
    by_cases h : a = D
    · subst h
      rw [mix_of fD, sD] at e
      cases e
    · unfold mix at e ⊢
      rw [supd_ne h]
      exact e
  exact ⟨Ev.sub sb, ⟨hr.1.unfr, hr.2.sub sb⟩, .lst hD2 ((mix_of fD).trans sD) z2 (l2.ev (Ev.sub sb))⟩
/-- the list at D, done: a cell -/
theorem fr_cell {S F : Sto} {D : Addr} {c : Cell} (sD : S D = none) (fD : F D = none) : mix S (supd F D c) = mix (supd S D c) F := by
  rw [mix_fr sD, mix_supd fD]
section
variable {X : Cx} {elt tgt iter : Expr} {ifs : List Expr} {scope : Scope} {own : List (Str × Nat)} {pos : Pos} {wi : WA} {tg : Tg} {tt : WB} {we : WE}
theorem tx_lc (hc : X.calm = true) (hN : X.N.Nodup) (hi : TIt X tgt iter wi) (ok : BlkOk X.N X.env.scope scope own)
    (hg : ∀ (s : Shared) (H : Hp) (C : Addr) (cl : List (Str × Addr)) (fp : List Addr), PG (X.blk s H scope (compEnvC scope cl C X.env) fp) tgt (tg.tg X.K)) (ht : ∀ (s : Shared) (H : Hp) (C : Addr) (cl : List (Str × Addr)) (fp : List Addr), TBs (X.blk s H scope (compEnvC scope cl C X.env) fp) ifs tt)
    (he : ∀ (s : Shared) (H : Hp) (C : Addr) (cl : List (Str × Addr)) (fp : List Addr), TX (X.blk s H scope (compEnvC scope cl C X.env) fp) elt we) (hv : ∀ i ∈ tg.vars, i ∈ own.map (·.2) := by decide) (hs : ∀ x, foldedSetIterable iter X.env x = pure x := by intro _; rfl) :
    TX X (.ListComp elt [⟨tgt, iter, ifs, 0⟩] scope pos) (wLc wi tg tt we (own.map (·.2))) :=
  ⟨PE.imp (pe_lc hc hN hi.pi ok hg (fun s H C cl fp => (ht s H C cl fp).pts) (fun s H C cl fp => (he s H C cl fp).pe) hs) fun σ H Q ⟨F, ρ, S, R, he, hr, w, k⟩ =>
    lc_up hv he hr w fun acc S' H' D e h sD fD q =>
      let ⟨a, b, c⟩ := fr_lst h sD fD
      k _ S' _ H' (e.trans a) b c q⟩
/-- the new list a cell -/
theorem tx_lcC (hc : X.calm = true) (hN : X.N.Nodup) (hi : TIt X tgt iter wi) (ok : BlkOk X.N X.env.scope scope own)
    (hg : ∀ (s : Shared) (H : Hp) (C : Addr) (cl : List (Str × Addr)) (fp : List Addr), PG (X.blk s H scope (compEnvC scope cl C X.env) fp) tgt (tg.tg X.K)) (ht : ∀ (s : Shared) (H : Hp) (C : Addr) (cl : List (Str × Addr)) (fp : List Addr), TBs (X.blk s H scope (compEnvC scope cl C X.env) fp) ifs tt)
    (he : ∀ (s : Shared) (H : Hp) (C : Addr) (cl : List (Str × Addr)) (fp : List Addr), TX (X.blk s H scope (compEnvC scope cl C X.env) fp) elt we) (hv : ∀ i ∈ tg.vars, i ∈ own.map (·.2) := by decide) (hs : ∀ x, foldedSetIterable iter X.env x = pure x := by intro _; rfl) :
    TX X (.ListComp elt [⟨tgt, iter, ifs, 0⟩] scope pos) (wLcC wi tg tt we (own.map (·.2))) :=
  ⟨PE.imp (pe_lc hc hN hi.pi ok hg (fun s H C cl fp => (ht s H C cl fp).pts) (fun s H C cl fp => (he s H C cl fp).pe) hs) fun σ H Q ⟨F, ρ, S, R, he, hr, w, k⟩ =>
    lc_up hv he hr w fun acc S' H' D e h sD fD q => by
      refine k (.ref D) (supd S' D (.lst acc)) _ H' ?_ ⟨(h.1.unfr).supd fD, ?_⟩ (.ref D) (q D sD)
      · show Ev X.K H (mix S F) H' (mix (supd S' D (.lst acc)) F)
        rw [← fr_cell sD fD]
        exact e
      · rw [← fr_cell sD fD]
        exact h.2⟩
end
end TL

set_option Elab.async false
set_option linter.all false
set_option maxRecDepth 100000
set_option maxHeartbeats 4000000
/-! TL4: defs and their calls; operators by trees. -/
namespace TL
open PySem L2 PyProof.Rows
/-! ### defs -/
def spT (K : PySem.W.Frag) (w : List T → Sto → Post → Prop) : Sp := fun vs H Q _ => ∃ F ts S R, RpLF K F H S ts vs ∧ HW K F H S ∧ w ts S R ∧ ∀ t S' v H', EvF K F H S H' S' → HW K F H' S' → RpF K F H' S' t v → R t S' → Q v H'
def startT (N : List Str) (ts : List T) : Sl := ts.map some ++ List.replicate (N.length - ts.length) none
theorem env_start {K : PySem.W.Frag} {H : Hp} {S : Sto} {N : List Str} {ts : List T} {vs : List V} (r : RpL K H S ts vs) : EnvR K H S (startT N ts) (L2.start N vs) := by
  unfold startT L2.start
  rw [r.length]
  refine Paired.append ?_ ?_
  · have : ∀ {ts : List T} {vs : List V}, RpL K H S ts vs → Paired (RpO K H S) (ts.map some) (vs.map some) := by
      intro ts
      induction ts with
      | nil => intro vs h; cases h; exact .nil
      | cons t ts ih => intro vs h; cases h with | cons a b => exact .cons a (ih b)
    exact this r
  · generalize N.length - vs.length = n
    induction n with
    | zero => exact .nil
    | succ n ih => rw [List.replicate_succ, List.replicate_succ]; exact .cons trivial ih
section
variable {P : Program} {W : World} {K : PySem.W.Frag} {mg : Str → Option Value} {base : Heap}
theorem fn_ok {x qual : Str} {st : Stmt} {f : Addr} {fd : FuncData} {N ps : List Str} {k : Nat} {w : List T → Sto → Post → Prop} {wb : WS} (Fn : Fun K x qual st f fd) (Sc : FnScope N ps (defScope st)) (hl : ∀ ts S R, w ts S R → ts.length = ps.length)
    (hb : ∀ (cdv : Value) (A : Around) (outer : List Env) (s : Shared) (H : Hp) (E : XK), Room k (A.deeper (envOfC qual (defScope st) s.heap.objs.size f cdv)) → TSs (cxOf CX0 P W K mg base N qual (defScope st) f cdv A outer s H E).nox (defBody st) wb)
    (h : ∀ ts S R, w ts S R → wb { nx := fun _ S' => R .non S', rt := R } (startT N ts) S) : FnOk P W K mg base CX0 (k + 1) f fd ps (spT K w) := by
  refine Fn.ok Sc (fun vs H Q E ⟨F, ts, S, R, r, hr, w', k⟩ => by rw [← r.length]; exact hl _ _ _ w') fun cdv A outer s H vs Q E hr ⟨F, ts, S, R, r, hw, w', k⟩ => ?_
  refine ⟨_, (hb cdv A outer s H E hr).pss, F, _, S, _, env_start r, hw, h ts S R w', ?_⟩
  exact ⟨fun ρ S' σ' H' e1 hr1 _ q => k .non S' .non H' e1 hr1 .non q, fun t S' v H' e1 hr1 r1 q => k t S' v H' e1 hr1 r1 q, fun _ _ _ _ _ _ _ q => q.elim, fun _ _ _ _ _ _ _ q => q.elim⟩
/-- what the def made beside may be forgotten -/
theorem fn_okF {x qual : Str} {st : Stmt} {f : Addr} {fd : FuncData} {N ps : List Str} {k : Nat} {w : List T → Sto → Post → Prop} {wb : WS} (Fn : Fun K x qual st f fd) (Sc : FnScope N ps (defScope st)) (hl : ∀ ts S R, w ts S R → ts.length = ps.length)
    (hb : ∀ (cdv : Value) (A : Around) (outer : List Env) (s : Shared) (H : Hp) (E : XK), Room k (A.deeper (envOfC qual (defScope st) s.heap.objs.size f cdv)) → TSs (cxOf CX0 P W K mg base N qual (defScope st) f cdv A outer s H E).nox (defBody st) wb)
    (h : ∀ ts S R, w ts S R → wb { nx := fun _ S' => ∃ S0, Sub S0 S' ∧ R .non S0, rt := fun t S' => ∃ S0, Sub S0 S' ∧ R t S0 } (startT N ts) S) : FnOk P W K mg base CX0 (k + 1) f fd ps (spT K w) := by
  refine Fn.ok Sc (fun vs H Q E ⟨F, ts, S, R, r, hr, w', k⟩ => by rw [← r.length]; exact hl _ _ _ w') fun cdv A outer s H vs Q E hr ⟨F, ts, S, R, r, hw, w', k⟩ => ?_
  refine ⟨_, (hb cdv A outer s H E hr).pss, F, _, S, _, env_start r, hw, h ts S R w', ?_⟩
  exact ⟨fun ρ S' σ' H' e1 hr1 _ ⟨S0, sb, q⟩ => k .non S0 .non H' (e1.trans (EvF.sub sb)) (hr1.sub sb) .non q, fun t S' v H' e1 hr1 r1 ⟨S0, sb, q⟩ => k t S0 v H' (e1.trans (EvF.sub sb)) (hr1.sub sb) (r1.ev (EvF.sub sb)) q, fun _ _ _ _ _ _ _ q => q.elim, fun _ _ _ _ _ _ _ q => q.elim⟩
/-- a def of the text, as it stands behind the top, with its promise -/
structure Def (P : Program) (W : World) (K : PySem.W.Frag) (mg : Str → Option Value) (base : Heap) (x : Str) (ps : List Str) (k : Nat) (w : List T → Sto → Post → Prop) : Prop where
  ex : ∃ f fd, FnOk P W K mg base CX0 k f fd ps (spT K w) ∧ mg x = some (.ref f) ∧ PySem.W.keepIn K (.ref f) = true ∧ Binds K fd ps []
theorem Def.mono {x : Str} {ps : List Str} {j k : Nat} {w : List T → Sto → Post → Prop} (d : Def P W K mg base x ps j w) (h : j ≤ k) : Def P W K mg base x ps k w := by
  obtain ⟨f, fd, a, b, c, e⟩ := d.ex
  exact ⟨f, fd, a.mono h, b, c, e⟩
theorem Def.imp {x : Str} {ps : List Str} {k : Nat} {w w' : List T → Sto → Post → Prop} (d : Def P W K mg base x ps k w) (h : ∀ ts S R, w' ts S R → w ts S R) : Def P W K mg base x ps k w' := by
  obtain ⟨f, fd, a, b, c, e⟩ := d.ex
  exact ⟨f, fd, a.imp fun vs H Q E ⟨F, ts, S, R, r, hr, w', k⟩ => ⟨F, ts, S, R, r, hr, h _ _ _ w', k⟩, b, c, e⟩
end
section
variable {X : Cx} {x : Str} {ps : List Str} {k : Nat} {w : List T → Sto → Post → Prop} {e : Expr} {es : List Expr} {ws : WA} {p pos : Pos}
theorem up_sp {σ : L2.St} {H : Hp} {Q : VK} {E : XK} (h : up X.K (wCall w ws) σ H Q) : tCall (spT X.K w) [] E (upA X.K ws) σ H Q := by
  obtain ⟨F, ρ, S, R, he, hr, w', kk⟩ := h
  refine ⟨F, ρ, S, _, he, hr, w', fun xs S1 vs H1 e1 hr1 r1 h1 => ?_⟩
  show spT X.K w (vs ++ []) H1 Q E
  rw [List.append_nil]
  exact ⟨F, xs, S1, R, r1, hr1, h1, fun t S' v H' e2 hr2 r2 q2 => kk t S' v H' (e1.trans e2) hr2 r2 q2⟩
theorem tx_call (D : Def X.prog X.w X.K X.mg X.base x ps k w) (hr : Room k X.A) (hg : Gl X x) (ha : TAs X (e :: es) ws) (hdb : (x == ("__debug__" : Str)) = false := by decide) (he : starEach (e :: es) X.env = (false, eval e X.env) :: starEach es X.env := by rfl)
    (hpl : (backTo pos (starEach es X.env)).any (·.1) = false := by rfl) : TX X (.Call (.Name x p) (e :: es) [] pos) (wCall w ws) := by
  obtain ⟨f, fd, a, b, c, d⟩ := D.ex
  exact ⟨PE.imp (pe_call (E := E0) a hr hg b c d .nil pass0 ha.pa hdb he hpl) fun σ H Q h => up_sp h⟩
theorem tx_call0 (D : Def X.prog X.w X.K X.mg X.base x ps k w) (hr : Room k X.A) (hg : Gl X x) (hdb : (x == ("__debug__" : Str)) = false := by decide) : TX X (.Call (.Name x p) [] [] pos) (wCall w wNil) := by
  obtain ⟨f, fd, a, b, c, d⟩ := D.ex
  refine ⟨PE.imp (pe_call0 (E := E0) a hr hg b c d .nil pass0 hdb) fun σ H Q ⟨F, ρ, S, R, he, hr, w', kk⟩ => ?_⟩
  exact ⟨F, [], S, R, .nil, hr, w', kk⟩
end
/-! ### arithmetic -/
section
variable {X : Cx}
/-- an operation on ints: what HandS has, as trees -/
theorem op_ints {f : Value → Value → Sem Value} {C : Int → Int → Prop} {g : Int → Int → Int} (h : OpR X f (rI C fun i j => .int (g i j))) : OpX X f fun x y S R => ∃ i j, x = .int i ∧ y = .int j ∧ C i j ∧ R (.int (g i j)) S :=
  ⟨_, h, fun F H S x y v u R Q hr rx ry ⟨i, j, e1, e2, c, q⟩ k => by
    subst e1; subst e2
    cases rx; cases ry
    exact ⟨i, j, rfl, rfl, c, k _ S _ H Ev.refl hr (.int _) q⟩⟩
theorem op_ints0 {f : Value → Value → Sem Value} {g : Int → Int → Int} (h : OpR X f (rI0 fun i j => .int (g i j))) : OpX X f fun x y S R => ∃ i j, x = .int i ∧ y = .int j ∧ R (.int (g i j)) S :=
  ⟨_, h, fun F H S x y v u R Q hr rx ry ⟨i, j, e1, e2, q⟩ k => by
    subst e1; subst e2
    cases rx; cases ry
    exact ⟨i, j, rfl, rfl, k _ S _ H Ev.refl hr (.int _) q⟩⟩
theorem op_bls0 {f : Value → Value → Sem Value} {g : Int → Int → Bool} (h : OpR X f (rI0 fun i j => .bl (g i j))) : OpX X f fun x y S R => ∃ i j, x = .int i ∧ y = .int j ∧ R (.bl (g i j)) S :=
  ⟨_, h, fun F H S x y v u R Q hr rx ry ⟨i, j, e1, e2, q⟩ k => by
    subst e1; subst e2
    cases rx; cases ry
    exact ⟨i, j, rfl, rfl, k _ S _ H Ev.refl hr (.bl _) q⟩⟩
theorem op_strs {f : Value → Value → Sem Value} {C : Str → Str → Prop} {g : Str → Str → Str} (h : OpR X f fun x y H Q => ∃ i j, x = .str i ∧ y = .str j ∧ C i j ∧ Q (.str (g i j)) H) : OpX X f fun x y S R => ∃ i j, x = .str i ∧ y = .str j ∧ C i j ∧ R (.str (g i j)) S :=
  ⟨_, h, fun F H S x y v u R Q hr rx ry ⟨i, j, e1, e2, c, q⟩ k => by
    subst e1; subst e2
    cases rx; cases ry
    exact ⟨i, j, rfl, rfl, c, k _ S _ H Ev.refl hr (.str _) q⟩⟩
theorem op_strB {f : Value → Value → Sem Value} {g : Str → Str → Bool} (h : OpR X f fun x y H Q => ∃ i j, x = .str i ∧ y = .str j ∧ Q (.bl (g i j)) H) : OpX X f fun x y S R => ∃ i j, x = .str i ∧ y = .str j ∧ R (.bl (g i j)) S :=
  ⟨_, h, fun F H S x y v u R Q hr rx ry ⟨i, j, e1, e2, q⟩ k => by
    subst e1; subst e2
    cases rx; cases ry
    exact ⟨i, j, rfl, rfl, k _ S _ H Ev.refl hr (.bl _) q⟩⟩
/-- a list in the heap that is one -/
theorem asL_lst {K : PySem.W.Frag} {F : Sto} {H : Hp} {S : Sto} {t : T} {v : V} {ts : List T} (hr : HW K F H S) (r : RpF K F H S t v) (e : asL S t = some ts) : ∃ a us, v = .ref a ∧ H a = some (.lst us) ∧ RpLF K F H S ts us ∧ ts.length ≤ sizeLine := by
  cases r with
  | lst r1 n z l =>
    simp only [asL] at e
    cases e
    exact ⟨_, _, rfl, r1, l, z⟩
  | ref a =>
    simp only [asL] at e
    split at e
    · next ts' h =>
      cases e
      obtain ⟨z, us, h1, l⟩ := hr.cell h
      exact ⟨_, _, rfl, h1, l, z⟩
    · cases e
  | _ => simp [asL] at e
/-- + of ints, texts, tuples, lists -/
def oAdd : T → T → Sto → Post → Prop
  | .int i, .int j, S, R => R (.int (i + j)) S
  | .int i, .bl b, S, R => R (.int (i + b2i b)) S
  | .str a, .str b, S, R => a.length + b.length ≤ sizeLine ∧ R (.str (a ++ b)) S
  | .tup a, .tup b, S, R => a.length + b.length ≤ sizeLine ∧ R (.tup (a ++ b)) S
  | x, y, S, R => ∃ a b, asL S x = some a ∧ asL S y = some b ∧ a.length + b.length ≤ sizeLine ∧ R (.lst (a ++ b)) S
theorem add_lists : OpX X (binaryOp .Add) fun x y S R => ∃ a b, asL S x = some a ∧ asL S y = some b ∧ a.length + b.length ≤ sizeLine ∧ R (.lst (a ++ b)) S :=
  ⟨_, op_cat, fun F H S x y v u R Q hr rx ry ⟨a, b, h1, h2, z, q⟩ k => by
    obtain ⟨p1, us1, rfl, e1, l1, z1⟩ := asL_lst hr rx h1
    obtain ⟨p2, us2, rfl, e2, l2, z2⟩ := asL_lst hr ry h2
    refine ⟨p1, p2, us1, us2, rfl, rfl, e1, e2, by rw [← l1.length, ← l2.length]; exact z, fun p hp => ?_⟩
    have ev : EvF X.K F H S (upd H p (.lst (us1 ++ us2))) S := Ev.laid hp
    exact k _ S _ _ ev (hr.laid hp) (.lst upd_same (hr.2.none hp) (by rw [List.length_append]; exact z) ((l1.append l2).ev ev)) q⟩
theorem add_tups : OpX X (binaryOp .Add) fun x y S R => ∃ a b, x = .tup a ∧ y = .tup b ∧ a.length + b.length ≤ sizeLine ∧ R (.tup (a ++ b)) S :=
  ⟨_, op_catA, fun F H S x y v u R Q hr rx ry ⟨a, b, h1, h2, z, q⟩ k => by
    subst h1; subst h2
    cases rx with
    | tup s1 z1 l1 =>
      cases ry with
      | tup s2 z2 l2 =>
        refine ⟨_, _, _, _, rfl, rfl, .inl (.inl s1), .inl (.inl s2), by rw [← l1.length, ← l2.length]; exact z, fun e => ?_, fun e1 e2 => ?_, fun _ _ p hp => ?_⟩
        · subst e
          cases l1
          exact k _ S _ H Ev.refl hr (.tup s2 z2 l2) q
        · subst e2
          cases l2
          rw [List.append_nil] at q
          exact k _ S _ H Ev.refl hr (.tup s1 z1 l1) q
        · exact k _ S _ _ (Ev.laid hp) (hr.laid hp) (.tup upd_same (by rw [List.length_append]; exact z) ((l1.append l2).ev (Ev.laid hp))) q⟩
theorem ox_add : OpX X (binaryOp .Add) oAdd := by
  refine OpX.imp (((((op_ints0 (X := X) op_add).or (op_strs op_add_str)).or add_tups).or add_lists).or (o' := fun x y S R => ∃ i b, x = .int i ∧ y = .bl b ∧ R (.int (i + b2i b)) S) ⟨_, op_add_ib, fun F H S x y v u R Q hr rx ry ⟨i, j, e1, e2, q⟩ k => by
    subst e1; subst e2
    cases rx; cases ry
    exact ⟨i, j, rfl, rfl, k _ S _ H Ev.refl hr (.int _) q⟩⟩) fun x y S R h => ?_
  unfold oAdd at h
  split at h
  · exact .inl (.inl (.inl (.inl ⟨_, _, rfl, rfl, h⟩)))
  · exact .inr ⟨_, _, rfl, rfl, h⟩
  · exact .inl (.inl (.inl (.inr ⟨_, _, rfl, rfl, h⟩)))
  · exact .inl (.inl (.inr ⟨_, _, rfl, rfl, h⟩))
  · exact .inl (.inr h)
def oInt (C : Int → Int → Prop) (g : Int → Int → Int) : T → T → Sto → Post → Prop := fun x y S R => ∃ i j, x = .int i ∧ y = .int j ∧ C i j ∧ R (.int (g i j)) S
def oSub : T → T → Sto → Post → Prop
  | .int i, .int j, S, R => R (.int (i - j)) S
  | _, _, _, _ => False
def oMod : T → T → Sto → Post → Prop
  | .int i, .int j, S, R => 0 < j ∧ R (.int (i % j)) S
  | _, _, _, _ => False
def oDiv : T → T → Sto → Post → Prop
  | .int i, .int j, S, R => (0 < j ∧ j < 1073741824) ∧ R (.int (i / j)) S
  | _, _, _, _ => False
def oPow : T → T → Sto → Post → Prop
  | .int i, .int j, S, R => (0 ≤ j ∧ j ≤ 1000000 ∧ i.natAbs < 2 ^ 64) ∧ R (.int (i ^ j.toNat)) S
  | _, _, _, _ => False
/-- * of ints; a list or a tuple so many times -/
def oMul : T → T → Sto → Post → Prop
  | .int i, .int j, S, R => ((-(2 ^ 64) < i ∧ i < 2 ^ 64) ∨ (-(2 ^ 64) < j ∧ j < 2 ^ 64)) ∧ R (.int (i * j)) S
  | x, .int k, S, R => ∃ a, asL S x = some a ∧ (-(2 ^ 63) ≤ k ∧ k < 2 ^ 63) ∧ a.length * k.toNat ≤ sizeLine ∧ R (.lst (List.replicate k.toNat a).flatten) S
  | _, _, _, _ => False
theorem RpL.rep {K : PySem.W.Frag} {H : Hp} {S : Sto} {ts : List T} {vs : List V} (h : RpL K H S ts vs) : ∀ n, RpL K H S (List.replicate n ts).flatten (List.replicate n vs).flatten
  | 0 => .nil
  | n + 1 => by rw [List.replicate_succ, List.replicate_succ, List.flatten_cons, List.flatten_cons]; exact h.append (RpL.rep h n)
theorem len_rep {α : Type} (a : List α) : ∀ n, (List.replicate n a).flatten.length = a.length * n
  | 0 => by simp
  | n + 1 => by rw [List.replicate_succ, List.flatten_cons, List.length_append, len_rep a n, Nat.mul_succ, Nat.add_comm]
theorem ox_sub : OpX X (binaryOp .Sub) oSub := (op_ints0 op_sub).imp fun x y S R h => by
  unfold oSub at h; split at h
  · exact ⟨_, _, rfl, rfl, h⟩
  · exact h.elim
theorem ox_mod : OpX X (binaryOp .Mod) oMod := (op_ints op_mod).imp fun x y S R h => by
  unfold oMod at h; split at h
  · exact ⟨_, _, rfl, rfl, h⟩
  · exact h.elim
theorem ox_div : OpX X (binaryOp .FloorDiv) oDiv := (op_ints op_fdiv).imp fun x y S R h => by
  unfold oDiv at h; split at h
  · exact ⟨_, _, rfl, rfl, h⟩
  · exact h.elim
theorem ox_pow : OpX X (binaryOp .Pow) oPow := (op_ints op_pow).imp fun x y S R h => by
  unfold oPow at h; split at h
  · exact ⟨_, _, rfl, rfl, h⟩
  · exact h.elim
theorem ox_mul : OpX X (binaryOp .Mult) oMul := by
  refine OpX.imp ((op_ints (X := X) op_mul).or (o' := fun x y S R => ∃ k a, y = .int k ∧ asL S x = some a ∧ (-(2 ^ 63) ≤ k ∧ k < 2 ^ 63) ∧ a.length * k.toNat ≤ sizeLine ∧ R (.lst (List.replicate k.toNat a).flatten) S) ⟨_, op_rep, fun F H S x y v u R Q hr rx ry ⟨n, a, e2, h1, b, z, q⟩ k => by
    subst e2
    obtain ⟨p1, us1, rfl, e1, l1, z1⟩ := asL_lst hr rx h1
    cases ry
    refine ⟨p1, n, us1, rfl, rfl, e1, b.1, b.2, by rw [← l1.length]; exact z, fun p hp => ?_⟩
    have ev : EvF X.K F H S (upd H p (.lst (List.replicate n.toNat us1).flatten)) S := Ev.laid hp
    exact k _ S _ _ ev (hr.laid hp) (.lst upd_same (hr.2.none hp) (by rw [len_rep]; exact z) ((l1.rep _).ev ev)) q⟩) fun x y S R h => ?_
  unfold oMul at h
  split at h
  · exact .inl ⟨_, _, rfl, rfl, h⟩
  · obtain ⟨a, h⟩ := h
    exact .inr ⟨_, _, rfl, h⟩
  · exact h.elim
def oNeg : T → Sto → Post → Prop
  | .int i, S, R => R (.int (-i)) S
  | _, _, _ => False
theorem ux_neg : UnX X (unaryOp .USub) oNeg := ⟨_, un_neg, fun F H S x v R Q hr rx h k => by
  cases rx with
  | int i => exact ⟨i, rfl, k _ S _ H Ev.refl hr (.int _) h⟩
  | _ => exact h.elim⟩
/-! ### comparisons -/
/-- code points -/
def ltS (a b : Str) : Bool := decide (a.cps.toList < b.cps.toList)
def oLt : T → T → Sto → Post → Prop
  | .int i, .int j, S, R => R (.bl (decide (i < j))) S
  | .str a, .str b, S, R => R (.bl (ltS a b)) S
  | _, _, _, _ => False
def oLe : T → T → Sto → Post → Prop
  | .int i, .int j, S, R => R (.bl (decide (i ≤ j))) S
  | _, _, _, _ => False
def oGt : T → T → Sto → Post → Prop
  | .int i, .int j, S, R => R (.bl (decide (j < i))) S
  | _, _, _, _ => False
def oGe : T → T → Sto → Post → Prop
  | .int i, .int j, S, R => R (.bl (decide (j ≤ i))) S
  | _, _, _, _ => False
theorem ox_lt : OpX X (compareOp .Lt) oLt := ((op_bls0 op_lt).or (op_strB op_lt_str)).imp fun x y S R h => by
  unfold oLt at h; split at h
  · exact .inl ⟨_, _, rfl, rfl, h⟩
  · exact .inr ⟨_, _, rfl, rfl, h⟩
  · exact h.elim
theorem ox_le : OpX X (compareOp .LtE) oLe := (op_bls0 op_le).imp fun x y S R h => by
  unfold oLe at h; split at h
  · exact ⟨_, _, rfl, rfl, h⟩
  · exact h.elim
theorem ox_gt : OpX X (compareOp .Gt) oGt := (op_bls0 op_gt).imp fun x y S R h => by
  unfold oGt at h; split at h
  · exact ⟨_, _, rfl, rfl, h⟩
  · exact h.elim
theorem ox_ge : OpX X (compareOp .GtE) oGe := (op_bls0 op_ge).imp fun x y S R h => by
  unfold oGe at h; split at h
  · exact ⟨_, _, rfl, rfl, h⟩
  · exact h.elim
/-- is None; is True, is False of bools -/
def isNon : T → Bool
  | .non => true
  | _ => false
def oIs : T → T → Sto → Post → Prop
  | x, .non, S, R => R (.bl (isNon x)) S
  | .bl a, .bl b, S, R => R (.bl (decide (a = b))) S
  | _, _, _, _ => False
def oIsNot : T → T → Sto → Post → Prop
  | x, .non, S, R => R (.bl (!isNon x)) S
  | .bl a, .bl b, S, R => R (.bl (!decide (a = b))) S
  | _, _, _, _ => False
theorem isNon_of {K : PySem.W.Frag} {H : Hp} {S : Sto} {t : T} {v : V} (r : Rp K H S t v) : decide (v = .non) = isNon t := by
  cases r <;> simp [isNon]
theorem ox_is : OpX X (compareOp .Is) oIs := by
  refine ⟨_, op_isN.or op_is_bl, fun F H S x y v u R Q hr rx ry h k => ?_⟩
  unfold oIs at h
  split at h
  · cases ry
    refine .inl ⟨rfl, ?_⟩
    rw [isNon_of rx]
    exact k _ S _ H Ev.refl hr (.bl _) h
  · cases rx; cases ry
    exact .inr ⟨_, _, rfl, rfl, k _ S _ H Ev.refl hr (.bl _) h⟩
  · exact h.elim
theorem ox_isnot : OpX X (compareOp .IsNot) oIsNot := by
  refine ⟨_, op_notN.or op_isnot_bl, fun F H S x y v u R Q hr rx ry h k => ?_⟩
  unfold oIsNot at h
  split at h
  · cases ry
    refine .inl ⟨rfl, ?_⟩
    rw [isNon_of rx]
    exact k _ S _ H Ev.refl hr (.bl _) h
  · cases rx; cases ry
    exact .inr ⟨_, _, rfl, rfl, k _ S _ H Ev.refl hr (.bl _) h⟩
  · exact h.elim
end
/-! ### == of trees -/
def isS : T → Bool
  | .non => true | .bl _ => true | .int _ => true | .str _ => true
  | _ => false
def eqS : T → T → Bool
  | .non, .non => true
  | .bl a, .bl b => a == b
  | .bl a, .int b => (if a then 1 else 0) == b
  | .int a, .bl b => a == (if b then 1 else 0)
  | .int a, .int b => a == b
  | .str a, .str b => a == b
  | _, _ => false
/-- a list or a tuple -/
def isQ : T → Bool
  | .tup _ => true | .lst _ => true
  | _ => false
/-! == of trees; none: not told (cells) -/
mutual
def eqT : T → T → Option Bool
  | .tup xs, y => match y with
    | .tup ys => eqTL xs ys
    | .lst _ => some false
    | y => if isS y = true then some false else none
  | .lst xs, y => match y with
    | .lst ys => if xs.length = ys.length then eqTL xs ys else some false
    | .tup _ => some false
    | y => if isS y = true then some false else none
  | .ref _, _ => none
  | .arg _, _ => none
  | .non, y => if isS y = true then some (eqS .non y) else if isQ y = true then some false else none
  | .bl b, y => if isS y = true then some (eqS (.bl b) y) else if isQ y = true then some false else none
  | .int b, y => if isS y = true then some (eqS (.int b) y) else if isQ y = true then some false else none
  | .str b, y => if isS y = true then some (eqS (.str b) y) else if isQ y = true then some false else none
def eqTL : List T → List T → Option Bool
  | [], ys => some ys.isEmpty
  | x :: xs, ys => match ys with
    | [] => some false
    | y :: ys => match eqT x y, eqTL xs ys with
      | some a, some b => some (a && b)
      | _, _ => none
end
mutual
def dpT : T → Nat
  | .tup ts => dpL ts + 1
  | .lst ts => dpL ts + 1
  | _ => 0
def dpL : List T → Nat
  | [] => 0
  | t :: ts => max (dpT t) (dpL ts)
end
theorem eqT_sc {x y : T} (h : isS x = true) : eqT x y = if isS y = true then some (eqS x y) else if isQ y = true then some false else none := by
  cases x <;> simp [isS] at h <;> simp only [eqT]
section
variable {K : PySem.W.Frag} {H : Hp} {S : Sto}
theorem eqS_same {x y : T} {v : V} (hx : isS x = true) (hy : isS y = true) (rx : Rp K H S x v) (ry : Rp K H S y v) : eqS x y = true := by
  cases rx <;> simp [isS] at hx <;> cases ry <;> simp [eqS]
/-! one address, one tree -/
mutual
theorem eqT_same : ∀ {x y : T} {v : V} {b : Bool}, Rp K H S x v → Rp K H S y v → eqT x y = some b → b = true
  | .tup xs, y, v, b, rx, ry, e => by
    cases rx with
    | tup h1 z1 l1 =>
      cases ry with
      | tup h2 z2 l2 =>
        rw [h1] at h2
        cases h2
        simp only [eqT] at e
        exact eqTL_same l1 l2 e
      | lst h2 => rw [h1] at h2; cases h2
      | ref => simp [eqT, isS] at e
      | arg => simp [eqT, isS] at e
  | .lst xs, y, v, b, rx, ry, e => by
    cases rx with
    | lst h1 n1 z1 l1 =>
      cases ry with
      | lst h2 n2 z2 l2 =>
        rw [h1] at h2
        cases h2
        simp only [eqT] at e
        split at e
        · exact eqTL_same l1 l2 e
        · next h => exact absurd (l1.length.trans l2.length.symm) h
      | tup h2 => rw [h1] at h2; cases h2
      | ref => simp [eqT, isS] at e
      | arg => simp [eqT, isS] at e
  | .ref _, _, _, _, _, _, e => by simp [eqT] at e
  | .arg _, _, _, _, _, _, e => by simp [eqT] at e
  | .non, y, v, b, rx, ry, e => by
    cases rx; cases ry
    simp only [eqT, isS, if_true] at e
    cases e
    rfl
  | .bl c, y, v, b, rx, ry, e => by
    cases rx; cases ry
    simp only [eqT, isS, if_true] at e
    cases e
    simp [eqS]
  | .int c, y, v, b, rx, ry, e => by
    cases rx; cases ry
    simp only [eqT, isS, if_true] at e
    cases e
    simp [eqS]
  | .str c, y, v, b, rx, ry, e => by
    cases rx; cases ry
    simp only [eqT, isS, if_true] at e
    cases e
    simp [eqS]
theorem eqTL_same : ∀ {xs ys : List T} {vs : List V} {b : Bool}, RpL K H S xs vs → RpL K H S ys vs → eqTL xs ys = some b → b = true
  | [], ys, vs, b, rx, ry, e => by
    cases rx; cases ry
    simp only [eqTL] at e
    cases e
    rfl
  | x :: xs, ys, vs, b, rx, ry, e => by
    cases rx with
    | cons r1 l1 =>
      cases ry with
      | cons r2 l2 =>
        simp only [eqTL] at e
        split at e
        · next a c h1 h2 =>
          cases e
          rw [eqT_same r1 r2 h1, eqTL_same l1 l2 h2]
          rfl
        · cases e
end
end
theorem eqTL_at : ∀ {xs ys : List T} {b : Bool}, eqTL xs ys = some b → (∀ (j : Nat) (x y : T), xs[j]? = some x → ys[j]? = some y → (eqT x y).isSome = true) ∧ b = ((List.range (min xs.length ys.length)).all (fun j => match xs[j]?, ys[j]? with
    | some x, some y => (eqT x y).getD false
    | _, _ => false) && xs.length == ys.length)
  | [], ys, b, e => by
    simp only [eqTL] at e
    cases e
    refine ⟨fun j x y h => by simp at h, ?_⟩
    cases ys <;> simp
  | x :: xs, [], b, e => by
    simp only [eqTL] at e
    cases e
    exact ⟨fun j x y _ h => by simp at h, by simp⟩
  | x :: xs, y :: ys, b, e => by
    simp only [eqTL] at e
    split at e
    · next a c h1 h2 =>
      cases e
      obtain ⟨k1, k2⟩ := eqTL_at h2
      refine ⟨fun j x' y' hx hy => ?_, ?_⟩
      · cases j with
        | zero => simp at hx hy; subst hx; subst hy; rw [h1]; rfl
        | succ j => exact k1 j x' y' (by simpa using hx) (by simpa using hy)
      · rw [k2]
        have em : min (x :: xs).length (y :: ys).length = min xs.length ys.length + 1 := by simp only [List.length_cons]; omega
        rw [em, List.range_succ_eq_map, List.all_cons, List.all_map]
        simp [h1, Function.comp_def, Bool.and_assoc]
    · cases e
theorem dpL_mem {t : T} : ∀ {ts : List T}, t ∈ ts → dpT t ≤ dpL ts
  | x :: xs, h => by
    simp only [dpL]
    rcases List.mem_cons.mp h with rfl | h
    · exact Nat.le_max_left _ _
    · exact Nat.le_trans (dpL_mem h) (Nat.le_max_right _ _)
section
variable {X : Cx} {pins : List (Addr × Obj)} {σ : L2.St} {H : Hp} {S : Sto} {s : Shared}
open PySem.SeqAt
/-- == of what the trees stand for: EqAt (as an item), in the state s -/
theorem eqAt_sc {A : Around} {x y : T} {v w : V} {u u' : Value} (hx : isS x = true) (hy : isS y = true) (rx : Rp X.K H S x v) (ry : Rp X.K H S y w) (ru : RelV v u) (rw' : RelV w u') : EqAt A s u u' (eqS x y) := by
  cases rx with
  | non =>
    cases ru
    cases ry with
    | non => cases rw'; exact EqAt.same _
    | bl d => cases rw'; exact EqAt.none_bool d
    | int d => obtain ⟨t', rfl⟩ := rw'; exact EqAt.none_int d t'
    | str d => obtain ⟨t', rfl⟩ := rw'; exact EqAt.none_str d t'
    | _ => simp [isS] at hy
  | bl c =>
    cases ru
    cases ry with
    | non => cases rw'; exact EqAt.bool_none c
    | bl d => cases rw'; exact EqAt.bool_bool c d
    | int d => obtain ⟨t', rfl⟩ := rw'; exact EqAt.bool_int c d t'
    | str d => obtain ⟨t', rfl⟩ := rw'; exact EqAt.bool_str c d t'
    | _ => simp [isS] at hy
  | int c =>
    obtain ⟨t, rfl⟩ := ru
    cases ry with
    | non => cases rw'; exact EqAt.int_none c t
    | bl d => cases rw'; exact EqAt.int_bool c t d
    | int d => obtain ⟨t', rfl⟩ := rw'; exact EqAt.int_int c t d t'
    | str d => obtain ⟨t', rfl⟩ := rw'; exact EqAt.int_str c t d t'
    | _ => simp [isS] at hy
  | str c =>
    obtain ⟨t, rfl⟩ := ru
    cases ry with
    | non => cases rw'; exact EqAt.str_none c t
    | bl d => cases rw'; exact EqAt.str_bool c t d
    | int d => obtain ⟨t', rfl⟩ := rw'; exact EqAt.str_int c t d t'
    | str d => obtain ⟨t', rfl⟩ := rw'; exact EqAt.str_str c t d t'
    | _ => simp [isS] at hy
  | _ => simp [isS] at hx
theorem tup_at (I : Inv X pins σ H s) {a : Addr} {us : List V} {ts : List T} (h : H a = some (.tup us)) (l : RpL X.K H S ts us) : ∃ its : List Value, Vals us its ∧ s.heap.IsTuple a its.toArray ∧ its.length = ts.length := by
  obtain ⟨its, rv, p, _⟩ := I.tuple (.inl (.inl h))
  exact ⟨its, rv, p, by rw [← rv.length, l.length]⟩
theorem lst_at (I : Inv X pins σ H s) {a : Addr} {us : List V} {ts : List T} (h : H a = some (.lst us)) (l : RpL X.K H S ts us) : ∃ its : List Value, Vals us its ∧ s.heap.IsList a its.toArray ∧ its.length = ts.length := by
  obtain ⟨its, rv, p, _⟩ := I.list (.inl (.inl h))
  exact ⟨its, rv, p.isList, by rw [← rv.length, l.length]⟩
theorem its_at {us : List V} {its : List Value} {ts : List T} (rv : Vals us its) (l : RpL X.K H S ts us) {j : Nat} (hj : j < its.length) : ∃ t v, ts[j]? = some t ∧ us[j]? = some v ∧ Rp X.K H S t v ∧ RelV v its[j] := by
  have h1 : j < us.length := by rw [rv.length]; exact hj
  obtain ⟨t, ht, r⟩ := l.get (List.getElem?_eq_getElem h1)
  obtain ⟨u, hu, ru⟩ := rv.get (List.getElem?_eq_getElem h1)
  rw [List.getElem?_eq_getElem hj] at hu
  cases hu
  exact ⟨t, us[j], ht, List.getElem?_eq_getElem h1, r, ru⟩
/-- scalar against list or tuple -/
theorem eqAt_sq {A : Around} (I : Inv X pins σ H s) (hu : A.units < cLine) {x y : T} {v w : V} {u u' : Value} (hx : isS x = true) (hy : isQ y = true) (rx : Rp X.K H S x v) (ry : Rp X.K H S y w) (ru : RelV v u) (rw' : RelV w u') : EqAt A s u u' false ∧ EqAt A s u' u false := by
  cases ry with
  | tup h z l =>
    obtain ⟨its, _, p, _⟩ := tup_at I h l
    cases rw'
    cases rx <;> simp [isS] at hx
    · cases ru; exact ⟨EqAt.none_tuple p hu, EqAt.tuple_none p hu⟩
    · cases ru; exact ⟨EqAt.bool_tuple _ p hu, EqAt.tuple_bool _ p hu⟩
    · obtain ⟨t, rfl⟩ := ru; exact ⟨EqAt.int_tuple _ _ p hu, EqAt.tuple_int _ _ p hu⟩
    · obtain ⟨t, rfl⟩ := ru; exact ⟨EqAt.str_tuple _ _ p hu, EqAt.tuple_str _ _ p hu⟩
  | lst h n z l =>
    obtain ⟨its, _, p, _⟩ := lst_at I h l
    cases rw'
    cases rx <;> simp [isS] at hx
    · cases ru; exact ⟨EqAt.none_list p hu, EqAt.list_none p hu⟩
    · cases ru; exact ⟨EqAt.bool_list _ p hu, EqAt.list_bool _ p hu⟩
    · obtain ⟨t, rfl⟩ := ru; exact ⟨EqAt.int_list _ _ p hu, EqAt.list_int _ _ p hu⟩
    · obtain ⟨t, rfl⟩ := ru; exact ⟨EqAt.str_list _ _ p hu, EqAt.list_str _ _ p hu⟩
  | _ => simp [isQ] at hy
/-- the turns' answers -/
def eqJ (xs ys : List T) (j : Nat) : Bool := match xs[j]?, ys[j]? with
  | some x, some y => (eqT x y).getD false
  | _, _ => false
theorem eqAt_T (I : Inv X pins σ H s) : ∀ (n : Nat) {A : Around} {x y : T} {v w : V} {u u' : Value} {b : Bool}, dpT x ≤ n → A.units + n < cLine → Rp X.K H S x v → Rp X.K H S y w → RelV v u → RelV w u' → eqT x y = some b → EqAt A s u u' b
  | n, A, x, y, v, w, u, u', b, hn, hu, rx, ry, ru, rw', e => by
    by_cases hs : isS x = true
    · rw [eqT_sc hs] at e
      split at e
      · next hy => cases e; exact eqAt_sc hs hy rx ry ru rw'
      · split at e
        · next hy => cases e; exact (eqAt_sq I (by omega) hs hy rx ry ru rw').1
        · cases e
    · cases rx with
      | @tup a us ts h z l =>
        obtain ⟨its, rv, p, hl⟩ := tup_at I h l
        cases ru
        cases ry with
        | @tup a' us' ts' h' z' l' =>
          obtain ⟨its', rv', p', hl'⟩ := tup_at I h' l'
          cases rw'
          simp only [eqT] at e
          by_cases hae : a = a'
          · subst hae
            rw [h] at h'
            cases h'
            rw [eqTL_same l l' e]
            exact EqAt.same _
          · obtain ⟨k1, k2⟩ := eqTL_at e
            rw [k2, ← hl, ← hl']
            have e1 : its.length = its.toArray.size := by simp
            have e2 : its'.length = its'.toArray.size := by simp
            rw [e1, e2]
            simp only [dpT] at hn
            obtain ⟨m, rfl⟩ : ∃ m, n = m + 1 := ⟨n - 1, by omega⟩
            refine EqAt.of_refs hae (RcAt.tuples p p' (by omega) fun j j1 j2 => ?_)
            have j1' : j < its.length := by simpa using j1
            have j2' : j < its'.length := by simpa using j2
            obtain ⟨t, v1, ht, _, r1, ru1⟩ := its_at rv l j1'
            obtain ⟨t2, v2, ht2, _, r2, ru2⟩ := its_at rv' l' j2'
            obtain ⟨c, hc⟩ := Option.isSome_iff_exists.mp (k1 j t t2 ht ht2)
            have := eqAt_T I m (A := A.in1) (Nat.le_trans (dpL_mem (List.mem_of_getElem? ht)) (by omega)) (by show A.units + 1 + m < cLine; omega) r1 r2 ru1 ru2 hc
            simp only [ht, ht2, hc, Option.getD_some]
            simpa using this
        | @lst a' us' ts' h' n' z' l' =>
          obtain ⟨its', rv', p', hl'⟩ := lst_at I h' l'
          cases rw'
          simp only [eqT] at e
          cases e
          exact EqAt.tuple_list p p' (by omega)
        | ref => simp [eqT, isS] at e
        | arg => simp [eqT, isS] at e
        | non => simp [eqT, isS] at e; subst e; exact (eqAt_sq I (by omega) (x := .non) rfl rfl .non (.tup h z l) rw' rfl).2
        | bl c => simp [eqT, isS] at e; subst e; exact (eqAt_sq I (by omega) (x := .bl c) rfl rfl (.bl c) (.tup h z l) rw' rfl).2
        | int c => simp [eqT, isS] at e; subst e; exact (eqAt_sq I (by omega) (x := .int c) rfl rfl (.int c) (.tup h z l) rw' rfl).2
        | str c => simp [eqT, isS] at e; subst e; exact (eqAt_sq I (by omega) (x := .str c) rfl rfl (.str c) (.tup h z l) rw' rfl).2
      | @lst a us ts h nn z l =>
        obtain ⟨its, rv, p, hl⟩ := lst_at I h l
        cases ru
        cases ry with
        | @lst a' us' ts' h' n' z' l' =>
          obtain ⟨its', rv', p', hl'⟩ := lst_at I h' l'
          cases rw'
          simp only [eqT] at e
          split at e
          · next hlen =>
            by_cases hae : a = a'
            · subst hae
              rw [h] at h'
              cases h'
              rw [eqTL_same l l' e]
              exact EqAt.same _
            · obtain ⟨k1, k2⟩ := eqTL_at e
              have hse : its.toArray.size = its'.toArray.size := by simp; omega
              have k3 : b = (List.range its.toArray.size).all (fun j => match ts[j]?, ts'[j]? with
                  | some x, some y => (eqT x y).getD false
                  | _, _ => false) := by
                rw [k2, hlen]
                simp
                rw [hl, hlen]
              rw [k3]
              simp only [dpT] at hn
              obtain ⟨m, rfl⟩ : ∃ m, n = m + 1 := ⟨n - 1, by omega⟩
              refine EqAt.of_refs hae (RcAt.lists p p' hse (by omega) fun j j1 j2 => ?_)
              have j1' : j < its.length := by simpa using j1
              have j2' : j < its'.length := by simpa using j2
              obtain ⟨t, v1, ht, _, r1, ru1⟩ := its_at rv l j1'
              obtain ⟨t2, v2, ht2, _, r2, ru2⟩ := its_at rv' l' j2'
              obtain ⟨c, hc⟩ := Option.isSome_iff_exists.mp (k1 j t t2 ht ht2)
              have := eqAt_T I m (A := A.in1) (Nat.le_trans (dpL_mem (List.mem_of_getElem? ht)) (by omega)) (by show A.units + 1 + m < cLine; omega) r1 r2 ru1 ru2 hc
              simp only [ht, ht2, hc, Option.getD_some]
              simpa using this
          · next hlen =>
            cases e
            have hae : a ≠ a' := by
              rintro rfl
              rw [h] at h'
              cases h'
              exact hlen (l.length.trans l'.length.symm)
            exact EqAt.of_refs hae (RcAt.lists_lengths p p' (by simp; omega) (by omega))
        | @tup a' us' ts' h' z' l' =>
          obtain ⟨its', rv', p', hl'⟩ := tup_at I h' l'
          cases rw'
          simp only [eqT] at e
          cases e
          exact EqAt.list_tuple p p' (by omega)
        | ref => simp [eqT, isS] at e
        | arg => simp [eqT, isS] at e
        | non => simp [eqT, isS] at e; subst e; exact (eqAt_sq I (by omega) (x := .non) rfl rfl .non (.lst h nn z l) rw' rfl).2
        | bl c => simp [eqT, isS] at e; subst e; exact (eqAt_sq I (by omega) (x := .bl c) rfl rfl (.bl c) (.lst h nn z l) rw' rfl).2
        | int c => simp [eqT, isS] at e; subst e; exact (eqAt_sq I (by omega) (x := .int c) rfl rfl (.int c) (.lst h nn z l) rw' rfl).2
        | str c => simp [eqT, isS] at e; subst e; exact (eqAt_sq I (by omega) (x := .str c) rfl rfl (.str c) (.lst h nn z l) rw' rfl).2
      | ref => simp [eqT] at e
      | arg => simp [eqT] at e
      | _ => exact absurd rfl hs
end
end TL

set_option Elab.async false
set_option linter.all false
set_option maxRecDepth 100000
set_option maxHeartbeats 4000000
/-! TL4b: == and != of trees and cells; in. -/
namespace TL
open PySem L2 PyProof.Rows
def eqQ (k : Bool) (ts : List T) (k' : Bool) (ts' : List T) : Option Bool := if k = true then (if k' = true then eqTL ts ts' else some false) else if k' = true then some false else if ts.length = ts'.length then eqTL ts ts' else some false
section
variable {X : Cx} {pins : List (Addr × Obj)} {σ : L2.St} {H : Hp} {S : Sto} {s : Shared}
open PySem.SeqAt
theorem rc_sc {A : Around} {x y : T} {v w : V} {u u' : Value} (hx : isS x = true) (hy : isS y = true) (rx : Rp X.K H S x v) (ry : Rp X.K H S y w) (ru : RelV v u) (rw' : RelV w u') : RcAt A s u u' (eqS x y) := by
  cases rx with
  | non =>
    cases ru
    cases ry with
    | non => cases rw'; exact RcAt.none_none 
    | bl d => cases rw'; exact RcAt.none_bool d
    | int d => obtain ⟨t', rfl⟩ := rw'; exact RcAt.none_int d t'
    | str d => obtain ⟨t', rfl⟩ := rw'; exact RcAt.none_str d t'
    | _ => simp [isS] at hy
  | bl c =>
    cases ru
    cases ry with
    | non => cases rw'; exact RcAt.bool_none c
    | bl d => cases rw'; exact RcAt.bool_bool c d
    | int d => obtain ⟨t', rfl⟩ := rw'; exact RcAt.bool_int c d t'
    | str d => obtain ⟨t', rfl⟩ := rw'; exact RcAt.bool_str c d t'
    | _ => simp [isS] at hy
  | int c =>
    obtain ⟨t, rfl⟩ := ru
    cases ry with
    | non => cases rw'; exact RcAt.int_none c t
    | bl d => cases rw'; exact RcAt.int_bool c t d
    | int d => obtain ⟨t', rfl⟩ := rw'; exact RcAt.int_int c t d t'
    | str d => obtain ⟨t', rfl⟩ := rw'; exact RcAt.int_str c t d t'
    | _ => simp [isS] at hy
  | str c =>
    obtain ⟨t, rfl⟩ := ru
    cases ry with
    | non => cases rw'; exact RcAt.str_none c t
    | bl d => cases rw'; exact RcAt.str_bool c t d
    | int d => obtain ⟨t', rfl⟩ := rw'; exact RcAt.str_int c t d t'
    | str d => obtain ⟨t', rfl⟩ := rw'; exact RcAt.str_str c t d t'
    | _ => simp [isS] at hy
  | _ => simp [isS] at hx
theorem rcNe_sc {A : Around} {x y : T} {v w : V} {u u' : Value} (hx : isS x = true) (hy : isS y = true) (rx : Rp X.K H S x v) (ry : Rp X.K H S y w) (ru : RelV v u) (rw' : RelV w u') : RcNeAt A s u u' (!eqS x y) := by
  cases rx with
  | non =>
    cases ru
    cases ry with
    | non => cases rw'; exact RcNeAt.none_none 
    | bl d => cases rw'; exact RcNeAt.none_bool d
    | int d => obtain ⟨t', rfl⟩ := rw'; exact RcNeAt.none_int d t'
    | str d => obtain ⟨t', rfl⟩ := rw'; exact RcNeAt.none_str d t'
    | _ => simp [isS] at hy
  | bl c =>
    cases ru
    cases ry with
    | non => cases rw'; exact RcNeAt.bool_none c
    | bl d => cases rw'; exact RcNeAt.bool_bool c d
    | int d => obtain ⟨t', rfl⟩ := rw'; exact RcNeAt.bool_int c d t'
    | str d => obtain ⟨t', rfl⟩ := rw'; exact RcNeAt.bool_str c d t'
    | _ => simp [isS] at hy
  | int c =>
    obtain ⟨t, rfl⟩ := ru
    cases ry with
    | non => cases rw'; exact RcNeAt.int_none c t
    | bl d => cases rw'; exact RcNeAt.int_bool c t d
    | int d => obtain ⟨t', rfl⟩ := rw'; exact RcNeAt.int_int c t d t'
    | str d => obtain ⟨t', rfl⟩ := rw'; exact RcNeAt.int_str c t d t'
    | _ => simp [isS] at hy
  | str c =>
    obtain ⟨t, rfl⟩ := ru
    cases ry with
    | non => cases rw'; exact RcNeAt.str_none c t
    | bl d => cases rw'; exact RcNeAt.str_bool c t d
    | int d => obtain ⟨t', rfl⟩ := rw'; exact RcNeAt.str_int c t d t'
    | str d => obtain ⟨t', rfl⟩ := rw'; exact RcNeAt.str_str c t d t'
    | _ => simp [isS] at hy
  | _ => simp [isS] at hx
theorem rc_sq (I : Inv X pins σ H s) (hu : X.A.units < cLine) {x : T} {v : V} {u : Value} {a : Addr} {us : List V} {k : Bool} (hx : isS x = true) (rx : Rp X.K H S x v) (ru : RelV v u) (h : if k = true then H a = some (.tup us) else H a = some (.lst us)) : RcAt X.A s u (.ref a) false := by
  cases k with
  | true =>
    obtain ⟨its, _, p, _⟩ := I.tuple (.inl (.inl (by simpa using h)))
    have p : s.heap.IsTuple a its.toArray := p
    cases rx with
    | non => cases ru; exact RcAt.none_tuple p hu
    | bl c => cases ru; exact RcAt.bool_tuple c p hu
    | int c => obtain ⟨t, rfl⟩ := ru; exact RcAt.int_tuple c t p hu
    | str c => obtain ⟨t, rfl⟩ := ru; exact RcAt.str_tuple c t p hu
    | _ => simp [isS] at hx
  | false =>
    obtain ⟨its, _, p0, _⟩ := I.list (.inl (.inl (by simpa using h)))
    have p := p0.isList
    cases rx with
    | non => cases ru; exact RcAt.none_list p hu
    | bl c => cases ru; exact RcAt.bool_list c p hu
    | int c => obtain ⟨t, rfl⟩ := ru; exact RcAt.int_list c t p hu
    | str c => obtain ⟨t, rfl⟩ := ru; exact RcAt.str_list c t p hu
    | _ => simp [isS] at hx
theorem rc_qs (I : Inv X pins σ H s) (hu : X.A.units < cLine) {x : T} {v : V} {u : Value} {a : Addr} {us : List V} {k : Bool} (hx : isS x = true) (rx : Rp X.K H S x v) (ru : RelV v u) (h : if k = true then H a = some (.tup us) else H a = some (.lst us)) : RcAt X.A s (.ref a) u false := by
  cases k with
  | true =>
    obtain ⟨its, _, p, _⟩ := I.tuple (.inl (.inl (by simpa using h)))
    have p : s.heap.IsTuple a its.toArray := p
    cases rx with
    | non => cases ru; exact RcAt.tuple_none p hu
    | bl c => cases ru; exact RcAt.tuple_bool c p hu
    | int c => obtain ⟨t, rfl⟩ := ru; exact RcAt.tuple_int c t p hu
    | str c => obtain ⟨t, rfl⟩ := ru; exact RcAt.tuple_str c t p hu
    | _ => simp [isS] at hx
  | false =>
    obtain ⟨its, _, p0, _⟩ := I.list (.inl (.inl (by simpa using h)))
    have p := p0.isList
    cases rx with
    | non => cases ru; exact RcAt.list_none p hu
    | bl c => cases ru; exact RcAt.list_bool c p hu
    | int c => obtain ⟨t, rfl⟩ := ru; exact RcAt.list_int c t p hu
    | str c => obtain ⟨t, rfl⟩ := ru; exact RcAt.list_str c t p hu
    | _ => simp [isS] at hx
theorem rcNe_sq (I : Inv X pins σ H s) (hu : X.A.units < cLine) {x : T} {v : V} {u : Value} {a : Addr} {us : List V} {k : Bool} (hx : isS x = true) (rx : Rp X.K H S x v) (ru : RelV v u) (h : if k = true then H a = some (.tup us) else H a = some (.lst us)) : RcNeAt X.A s u (.ref a) true := by
  cases k with
  | true =>
    obtain ⟨its, _, p, _⟩ := I.tuple (.inl (.inl (by simpa using h)))
    have p : s.heap.IsTuple a its.toArray := p
    cases rx with
    | non => cases ru; exact RcNeAt.none_tuple p hu
    | bl c => cases ru; exact RcNeAt.bool_tuple c p hu
    | int c => obtain ⟨t, rfl⟩ := ru; exact RcNeAt.int_tuple c t p hu
    | str c => obtain ⟨t, rfl⟩ := ru; exact RcNeAt.str_tuple c t p hu
    | _ => simp [isS] at hx
  | false =>
    obtain ⟨its, _, p0, _⟩ := I.list (.inl (.inl (by simpa using h)))
    have p := p0.isList
    cases rx with
    | non => cases ru; exact RcNeAt.none_list p hu
    | bl c => cases ru; exact RcNeAt.bool_list c p hu
    | int c => obtain ⟨t, rfl⟩ := ru; exact RcNeAt.int_list c t p hu
    | str c => obtain ⟨t, rfl⟩ := ru; exact RcNeAt.str_list c t p hu
    | _ => simp [isS] at hx
theorem rcNe_qs (I : Inv X pins σ H s) (hu : X.A.units < cLine) {x : T} {v : V} {u : Value} {a : Addr} {us : List V} {k : Bool} (hx : isS x = true) (rx : Rp X.K H S x v) (ru : RelV v u) (h : if k = true then H a = some (.tup us) else H a = some (.lst us)) : RcNeAt X.A s (.ref a) u true := by
  cases k with
  | true =>
    obtain ⟨its, _, p, _⟩ := I.tuple (.inl (.inl (by simpa using h)))
    have p : s.heap.IsTuple a its.toArray := p
    cases rx with
    | non => cases ru; exact RcNeAt.tuple_none p hu
    | bl c => cases ru; exact RcNeAt.tuple_bool c p hu
    | int c => obtain ⟨t, rfl⟩ := ru; exact RcNeAt.tuple_int c t p hu
    | str c => obtain ⟨t, rfl⟩ := ru; exact RcNeAt.tuple_str c t p hu
    | _ => simp [isS] at hx
  | false =>
    obtain ⟨its, _, p0, _⟩ := I.list (.inl (.inl (by simpa using h)))
    have p := p0.isList
    cases rx with
    | non => cases ru; exact RcNeAt.list_none p hu
    | bl c => cases ru; exact RcNeAt.list_bool c p hu
    | int c => obtain ⟨t, rfl⟩ := ru; exact RcNeAt.list_int c t p hu
    | str c => obtain ⟨t, rfl⟩ := ru; exact RcNeAt.list_str c t p hu
    | _ => simp [isS] at hx
theorem rc_qq (I : Inv X pins σ H s) (hu : X.A.units + 64 < cLine) {a a' : Addr} {us us' : List V} {ts ts' : List T} {k k' b : Bool} (l : RpL X.K H S ts us) (l' : RpL X.K H S ts' us')
    (h : if k = true then H a = some (.tup us) else H a = some (.lst us)) (h' : if k' = true then H a' = some (.tup us') else H a' = some (.lst us')) (e : eqQ k ts k' ts' = some b) (hd : ts' = [] ∨ dpL ts ≤ 60) : RcAt X.A s (.ref a) (.ref a') (b) := by
  have item : ∀ (its its' : List Value), Vals us its → Vals us' its' → (∀ (j : Nat) (x y : T), ts[j]? = some x → ts'[j]? = some y → (eqT x y).isSome = true) → ∀ j (h1 : j < its.toArray.size) (h2 : j < its'.toArray.size), EqAt X.A.in1 s its.toArray[j] its'.toArray[j] (eqJ ts ts' j) := by
    intro its its' rv rv' k1 j j1 j2
    have j1' : j < its.length := by simpa using j1
    have j2' : j < its'.length := by simpa using j2
    obtain ⟨t, v1, ht, _, r1, ru1⟩ := its_at rv l j1'
    obtain ⟨t2, v2, ht2, _, r2, ru2⟩ := its_at rv' l' j2'
    obtain ⟨c, hc⟩ := Option.isSome_iff_exists.mp (k1 j t t2 ht ht2)
    have hd' : dpL ts ≤ 60 := hd.resolve_left fun z => by rw [z] at ht2; simp at ht2
    have := eqAt_T I 60 (A := X.A.in1) (Nat.le_trans (dpL_mem (List.mem_of_getElem? ht)) hd') (by show X.A.units + 1 + 60 < cLine; omega) r1 r2 ru1 ru2 hc
    unfold eqJ
    simp only [ht, ht2, hc, Option.getD_some]
    simpa using this
  cases k with
  | true =>
    obtain ⟨its, rv, p0, hl⟩ := I.tuple (.inl (.inl (by simpa using h)))
    have p : s.heap.IsTuple a its.toArray := p0
    have hlen : its.length = ts.length := by rw [← rv.length, l.length]
    cases k' with
    | true =>
      obtain ⟨its', rv', p0', hl'⟩ := I.tuple (.inl (.inl (by simpa using h')))
      have p' : s.heap.IsTuple a' its'.toArray := p0'
      have hlen' : its'.length = ts'.length := by rw [← rv'.length, l'.length]
      have e' : eqTL ts ts' = some b := e
      obtain ⟨k1, k2⟩ := eqTL_at e'
      have k3 : b = ((List.range (min its.toArray.size its'.toArray.size)).all (eqJ ts ts') && its.toArray.size == its'.toArray.size) := by
        rw [k2]
        have e1 : its.toArray.size = ts.length := by simpa using hlen
        have e2 : its'.toArray.size = ts'.length := by simpa using hlen'
        rw [e1, e2]
        rfl
      rw [k3]
      exact RcAt.tuples p p' (by omega) (item its its' rv rv' k1)
    | false =>
      obtain ⟨its', rv', p0', hl'⟩ := I.list (.inl (.inl (by simpa using h')))
      cases e
      exact RcAt.tuple_list p p0'.isList (by omega)
  | false =>
    obtain ⟨its, rv, p0, hl⟩ := I.list (.inl (.inl (by simpa using h)))
    have p := p0.isList
    have hlen : its.length = ts.length := by rw [← rv.length, l.length]
    cases k' with
    | true =>
      obtain ⟨its', rv', p0', hl'⟩ := I.tuple (.inl (.inl (by simpa using h')))
      have p' : s.heap.IsTuple a' its'.toArray := p0'
      cases e
      exact RcAt.list_tuple p p' (by omega)
    | false =>
      obtain ⟨its', rv', p0', hl'⟩ := I.list (.inl (.inl (by simpa using h')))
      have p' := p0'.isList
      have hlen' : its'.length = ts'.length := by rw [← rv'.length, l'.length]
      have e1 : its.toArray.size = ts.length := by simpa using hlen
      have e2 : its'.toArray.size = ts'.length := by simpa using hlen'
      unfold eqQ at e
      simp only [Bool.false_eq_true, if_false] at e
      split at e
      · next hh =>
        obtain ⟨k1, k2⟩ := eqTL_at e
        have k3 : b = (List.range its.toArray.size).all (eqJ ts ts') := by
          rw [k2, hh, Nat.min_self, e1, hh]
          have : (ts'.length == ts'.length) = true := beq_self_eq_true _
          rw [this, Bool.and_true]
          rfl
        rw [k3]
        exact RcAt.lists p p' (by rw [e1, e2]; exact hh) (by omega) (item its its' rv rv' k1)
      · next hh =>
        cases e
        exact RcAt.lists_lengths p p' (by rw [e1, e2]; simpa using hh) (by omega)
theorem rcNe_qq (I : Inv X pins σ H s) (hu : X.A.units + 64 < cLine) {a a' : Addr} {us us' : List V} {ts ts' : List T} {k k' b : Bool} (l : RpL X.K H S ts us) (l' : RpL X.K H S ts' us')
    (h : if k = true then H a = some (.tup us) else H a = some (.lst us)) (h' : if k' = true then H a' = some (.tup us') else H a' = some (.lst us')) (e : eqQ k ts k' ts' = some b) (hd : ts' = [] ∨ dpL ts ≤ 60) : RcNeAt X.A s (.ref a) (.ref a') (!b) := by
  have item : ∀ (its its' : List Value), Vals us its → Vals us' its' → (∀ (j : Nat) (x y : T), ts[j]? = some x → ts'[j]? = some y → (eqT x y).isSome = true) → ∀ j (h1 : j < its.toArray.size) (h2 : j < its'.toArray.size), EqAt X.A.in1 s its.toArray[j] its'.toArray[j] (eqJ ts ts' j) := by
    intro its its' rv rv' k1 j j1 j2
    have j1' : j < its.length := by simpa using j1
    have j2' : j < its'.length := by simpa using j2
    obtain ⟨t, v1, ht, _, r1, ru1⟩ := its_at rv l j1'
    obtain ⟨t2, v2, ht2, _, r2, ru2⟩ := its_at rv' l' j2'
    obtain ⟨c, hc⟩ := Option.isSome_iff_exists.mp (k1 j t t2 ht ht2)
    have hd' : dpL ts ≤ 60 := hd.resolve_left fun z => by rw [z] at ht2; simp at ht2
    have := eqAt_T I 60 (A := X.A.in1) (Nat.le_trans (dpL_mem (List.mem_of_getElem? ht)) hd') (by show X.A.units + 1 + 60 < cLine; omega) r1 r2 ru1 ru2 hc
    unfold eqJ
    simp only [ht, ht2, hc, Option.getD_some]
    simpa using this
  cases k with
  | true =>
    obtain ⟨its, rv, p0, hl⟩ := I.tuple (.inl (.inl (by simpa using h)))
    have p : s.heap.IsTuple a its.toArray := p0
    have hlen : its.length = ts.length := by rw [← rv.length, l.length]
    cases k' with
    | true =>
      obtain ⟨its', rv', p0', hl'⟩ := I.tuple (.inl (.inl (by simpa using h')))
      have p' : s.heap.IsTuple a' its'.toArray := p0'
      have hlen' : its'.length = ts'.length := by rw [← rv'.length, l'.length]
      have e' : eqTL ts ts' = some b := e
      obtain ⟨k1, k2⟩ := eqTL_at e'
      have k3 : b = ((List.range (min its.toArray.size its'.toArray.size)).all (eqJ ts ts') && its.toArray.size == its'.toArray.size) := by
        rw [k2]
        have e1 : its.toArray.size = ts.length := by simpa using hlen
        have e2 : its'.toArray.size = ts'.length := by simpa using hlen'
        rw [e1, e2]
        rfl
      rw [k3]
      exact RcNeAt.tuples p p' (by omega) (item its its' rv rv' k1)
    | false =>
      obtain ⟨its', rv', p0', hl'⟩ := I.list (.inl (.inl (by simpa using h')))
      cases e
      exact RcNeAt.tuple_list p p0'.isList (by omega)
  | false =>
    obtain ⟨its, rv, p0, hl⟩ := I.list (.inl (.inl (by simpa using h)))
    have p := p0.isList
    have hlen : its.length = ts.length := by rw [← rv.length, l.length]
    cases k' with
    | true =>
      obtain ⟨its', rv', p0', hl'⟩ := I.tuple (.inl (.inl (by simpa using h')))
      have p' : s.heap.IsTuple a' its'.toArray := p0'
      cases e
      exact RcNeAt.list_tuple p p' (by omega)
    | false =>
      obtain ⟨its', rv', p0', hl'⟩ := I.list (.inl (.inl (by simpa using h')))
      have p' := p0'.isList
      have hlen' : its'.length = ts'.length := by rw [← rv'.length, l'.length]
      have e1 : its.toArray.size = ts.length := by simpa using hlen
      have e2 : its'.toArray.size = ts'.length := by simpa using hlen'
      unfold eqQ at e
      simp only [Bool.false_eq_true, if_false] at e
      split at e
      · next hh =>
        obtain ⟨k1, k2⟩ := eqTL_at e
        have k3 : b = (List.range its.toArray.size).all (eqJ ts ts') := by
          rw [k2, hh, Nat.min_self, e1, hh]
          have : (ts'.length == ts'.length) = true := beq_self_eq_true _
          rw [this, Bool.and_true]
          rfl
        rw [k3]
        exact RcNeAt.lists p p' (by rw [e1, e2]; exact hh) (by omega) (item its its' rv rv' k1)
      · next hh =>
        cases e
        exact RcNeAt.lists_lengths p p' (by rw [e1, e2]; simpa using hh) (by omega)
end
/-- a tuple (true), a list (false; a cell too) -/
def seqK (S : Sto) : T → Option (Bool × List T)
  | .tup ts => some (true, ts)
  | .lst ts => some (false, ts)
  | .ref a => match S a with
    | some (.lst ts) => some (false, ts)
    | _ => none
  | _ => none
theorem seqK_of {K : PySem.W.Frag} {F : Sto} {H : Hp} {S : Sto} {t : T} {v : V} {k : Bool} {ts : List T} (hr : HW K F H S) (r : RpF K F H S t v) (e : seqK S t = some (k, ts)) : ∃ a us, v = .ref a ∧ (if k = true then H a = some (.tup us) else H a = some (.lst us)) ∧ RpLF K F H S ts us := by
  cases r with
  | tup h z l => cases e; exact ⟨_, _, rfl, by simpa using h, l⟩
  | lst h n z l => cases e; exact ⟨_, _, rfl, by simpa using h, l⟩
  | ref a =>
    simp only [seqK] at e
    split at e
    · next h =>
      cases e
      obtain ⟨z, us, h1, l⟩ := hr.cell h
      exact ⟨_, _, rfl, by simpa using h1, l⟩
    · cases e
  | _ => simp [seqK] at e
/-- == of trees, cells that are lists too -/
def eqC (S : Sto) (x y : T) : Option Bool := match seqK S x, seqK S y with
  | some (k, xs), some (k', ys) => eqQ k xs k' ys
  | some _, none => if isS y = true then some false else none
  | none, some _ => if isS x = true then some false else none
  | none, none => if (isS x && isS y) = true then some (eqS x y) else none
def dpC (S : Sto) (x y : T) : Prop := match seqK S x, seqK S y with
  | some (_, xs), some (_, ys) => ys = [] ∨ dpL xs ≤ 60
  | _, _ => True
def oEq (x y : T) (S : Sto) (R : Post) : Prop := ∃ b, eqC S x y = some b ∧ dpC S x y ∧ R (.bl b) S
def oNe (x y : T) (S : Sto) (R : Post) : Prop := ∃ b, eqC S x y = some b ∧ dpC S x y ∧ R (.bl (!b)) S
section
variable {X : Cx} {pins : List (Addr × Obj)} {σ : L2.St} {H : Hp} {F S : Sto} {s : Shared}
theorem rc_C (I : Inv X pins σ H s) (hr : HW X.K F H S) (hu : X.A.units + 64 < cLine) {x y : T} {v w : V} {u u' : Value} {b : Bool} (rx : RpF X.K F H S x v) (ry : RpF X.K F H S y w) (ru : RelV v u) (rw' : RelV w u') (e : eqC S x y = some b) (hd : dpC S x y) :
    SeqAt.RcAt X.A s u u' b ∧ SeqAt.RcNeAt X.A s u u' (!b) := by
  unfold eqC at e
  unfold dpC at hd
  split at e
  · next k xs k' ys h1 h2 =>
    rw [h1, h2] at hd
    obtain ⟨a, us, rfl, p1, l1⟩ := seqK_of hr rx h1
    obtain ⟨a', us', rfl, p2, l2⟩ := seqK_of hr ry h2
    cases ru; cases rw'
    exact ⟨rc_qq I hu l1 l2 p1 p2 e hd, rcNe_qq I hu l1 l2 p1 p2 e hd⟩
  · next p h1 h2 =>
    obtain ⟨k, xs⟩ := p
    obtain ⟨a, us, rfl, p1, l1⟩ := seqK_of hr rx h1
    cases ru
    split at e
    · next hy => cases e; exact ⟨rc_qs I (by omega) hy ry rw' p1, rcNe_qs I (by omega) hy ry rw' p1⟩
    · cases e
  · next p h1 h2 =>
    obtain ⟨k, ys⟩ := p
    obtain ⟨a, us, rfl, p1, l1⟩ := seqK_of hr ry h2
    cases rw'
    split at e
    · next hx => cases e; exact ⟨rc_sq I (by omega) hx rx ru p1, rcNe_sq I (by omega) hx rx ru p1⟩
    · cases e
  · split at e
    · next h =>
      rw [Bool.and_eq_true] at h
      cases e
      exact ⟨rc_sc h.1 h.2 rx ry ru rw', rcNe_sc h.1 h.2 rx ry ru rw'⟩
    · cases e
/-- what is asked, at the heap -/
def rTree (K : PySem.W.Frag) (o : T → T → Sto → Post → Prop) : R2 := fun v u H Q => ∃ F S x y R, HW K F H S ∧ RpF K F H S x v ∧ RpF K F H S y u ∧ o x y S R ∧ ∀ t S' v' H', EvF K F H S H' S' → HW K F H' S' → RpF K F H' S' t v' → R t S' → Q v' H'
theorem opx_tree {f : Value → Value → Sem Value} {o : T → T → Sto → Post → Prop} (h : OpR X f (rTree X.K o)) : OpX X f o :=
  ⟨_, h, fun F H S x y v u R Q hr rx ry w k => ⟨F, S, x, y, R, hr, rx, ry, w, k⟩⟩
theorem ox_eq (hu : X.A.units + 64 < cLine) : OpX X (compareOp .Eq) oEq := opx_tree fun pins s σ H v w u u' Q I ru rw' ⟨F, S, x, y, R, hr, rx, ry, ⟨b, e, hd, q⟩, k⟩ =>
  (rc_C I hr hu rx ry ru rw' e hd).1 X.prog X.w X.xe _ ⟨.bl b, H, I, rfl, k _ S _ H Ev.refl hr (.bl _) q⟩
theorem ox_ne (hu : X.A.units + 64 < cLine) : OpX X (compareOp .NotEq) oNe := opx_tree fun pins s σ H v w u u' Q I ru rw' ⟨F, S, x, y, R, hr, rx, ry, ⟨b, e, hd, q⟩, k⟩ =>
  (rc_C I hr hu rx ry ru rw' e hd).2 X.prog X.w X.xe _ ⟨.bl (!b), H, I, rfl, k _ S _ H Ev.refl hr (.bl _) q⟩
/-- x in ys -/
def inO (x : T) : List T → Option Bool
  | [] => some false
  | y :: ys => match eqT y x, inO x ys with
    | some a, some b => some (a || b)
    | _, _ => none
theorem inO_at {x : T} : ∀ {ts : List T} {b : Bool}, inO x ts = some b → (∀ t ∈ ts, (eqT t x).isSome = true) ∧ (b = true ↔ ∃ t ∈ ts, eqT t x = some true)
  | [], b, e => by simp only [inO] at e; cases e; simp
  | y :: ys, b, e => by
    simp only [inO] at e
    split at e
    · next a c h1 h2 =>
      cases e
      obtain ⟨k1, k2⟩ := inO_at h2
      refine ⟨fun t ht => ?_, ?_⟩
      · rcases List.mem_cons.mp ht with rfl | ht
        · rw [h1]; rfl
        · exact k1 t ht
      · rw [Bool.or_eq_true, k2]
        constructor
        · rintro (h | ⟨t, h3, h4⟩)
          · subst h; exact ⟨y, List.mem_cons_self, h1⟩
          · exact ⟨t, List.mem_cons_of_mem _ h3, h4⟩
        · rintro ⟨t, h3, h4⟩
          rcases List.mem_cons.mp h3 with rfl | h3
          · rw [h1] at h4; cases h4; exact .inl rfl
          · exact .inr ⟨t, h3, h4⟩
    · cases e
open Classical in
noncomputable def hitV (x : T) (ts : List T) (its : List Value) (w : Value) : Bool := decide (∃ (j : Nat) (t : T), its[j]? = some w ∧ ts[j]? = some t ∧ eqT t x = some true)
open Classical in
theorem hit_any {x : T} {ts : List T} {its : List Value} {b : Bool} (hl : its.length = ts.length) (e : inO x ts = some b) : its.toArray.any (hitV x ts its) = b := by
  obtain ⟨_, k2⟩ := inO_at e
  have : (its.any (hitV x ts its) = true) ↔ b = true := by
    rw [k2, List.any_eq_true]
    constructor
    · rintro ⟨w, _, h⟩
      obtain ⟨j, t, _, h2, h3⟩ := of_decide_eq_true h
      exact ⟨t, List.mem_of_getElem? h2, h3⟩
    · rintro ⟨t, h1, h2⟩
      obtain ⟨j, hj⟩ := List.getElem?_of_mem h1
      have hjl : j < its.length := by rw [hl]; exact (List.getElem?_eq_some_iff.mp hj).1
      exact ⟨its[j], List.getElem_mem hjl, decide_eq_true ⟨j, t, List.getElem?_eq_getElem hjl, hj, h2⟩⟩
  rw [show its.toArray.any (hitV x ts its) = its.any (hitV x ts its) by simp]
  cases hb : b
  · cases ha : its.any (hitV x ts its)
    · rfl
    · rw [hb] at this; exact absurd (this.mp ha) (by simp)
  · rw [hb] at this; exact this.mpr rfl
open Classical in
theorem hit_at (I : Inv X pins σ H s) (hu : X.A.units + 64 < cLine) {x : T} {v : V} {u : Value} {ts : List T} {us : List V} {its : List Value} {b : Bool} (rx : Rp X.K H S x v) (ru : RelV v u) (l : RpL X.K H S ts us) (rv : Vals us its) (e : inO x ts = some b) (hd : dpL ts ≤ 60) :
    ∀ y, y ∈ its.toArray → SeqAt.EqAt X.A.in1 s y u (hitV x ts its y) := by
  intro y hy
  obtain ⟨k1, _⟩ := inO_at e
  by_cases h : ∃ (j : Nat) (t : T), its[j]? = some y ∧ ts[j]? = some t ∧ eqT t x = some true
  · rw [show hitV x ts its y = true from decide_eq_true h]
    obtain ⟨j, t, h1, h2, h3⟩ := h
    obtain ⟨hj, e1⟩ := List.getElem?_eq_some_iff.mp h1
    obtain ⟨t', v', h4, _, r', ru'⟩ := its_at rv l hj
    rw [h2] at h4
    cases h4
    rw [e1] at ru'
    exact eqAt_T I 60 (A := X.A.in1) (Nat.le_trans (dpL_mem (List.mem_of_getElem? h2)) hd) (by show X.A.units + 1 + 60 < cLine; omega) r' rx ru' ru h3
  · rw [show hitV x ts its y = false from decide_eq_false h]
    have hy' : y ∈ its := by simpa using hy
    obtain ⟨j, h1⟩ := List.getElem?_of_mem hy'
    obtain ⟨hj, e1⟩ := List.getElem?_eq_some_iff.mp h1
    obtain ⟨t', v', h4, _, r', ru'⟩ := its_at rv l hj
    rw [e1] at ru'
    obtain ⟨c, hc⟩ := Option.isSome_iff_exists.mp (k1 t' (List.mem_of_getElem? h4))
    cases c with
    | true => exact absurd ⟨j, t', h1, h4, hc⟩ h
    | false => exact eqAt_T I 60 (A := X.A.in1) (Nat.le_trans (dpL_mem (List.mem_of_getElem? h4)) hd) (by show X.A.units + 1 + 60 < cLine; omega) r' rx ru' ru hc
/-- x in y: a text in a text; a tree in a list or tuple -/
def occ (a z : Str) : Bool := !(Builtin.Str.occurrences z a 0 z.length 1).isEmpty
def oIn (neg : Bool) : T → T → Sto → Post → Prop
  | x, .str z, S, R => ∃ a, x = .str a ∧ R (.bl (if neg then !occ a z else occ a z)) S
  | x, y, S, R => ∃ k ts b, seqK S y = some (k, ts) ∧ inO x ts = some b ∧ dpL ts ≤ 60 ∧ R (.bl (if neg then !b else b)) S
theorem in_seqX (hu : X.A.units + 64 < cLine) : (OpX X (compareOp .In) fun x y S R => ∃ k ts b, seqK S y = some (k, ts) ∧ inO x ts = some b ∧ dpL ts ≤ 60 ∧ R (.bl b) S) ∧ (OpX X (compareOp .NotIn) fun x y S R => ∃ k ts b, seqK S y = some (k, ts) ∧ inO x ts = some b ∧ dpL ts ≤ 60 ∧ R (.bl (!b)) S) := by
  refine ⟨opx_tree fun pins s σ H v w u u' Q I ru rw' ⟨F, S, x, y, R, hr, rx, ry, ⟨k, ts, b, h1, e, hd, q⟩, kk⟩ => ?_, opx_tree fun pins s σ H v w u u' Q I ru rw' ⟨F, S, x, y, R, hr, rx, ry, ⟨k, ts, b, h1, e, hd, q⟩, kk⟩ => ?_⟩
  all_goals
    obtain ⟨a, us, rfl, p1, l1⟩ := seqK_of hr ry h1
    cases rw'
    cases k with
    | true =>
      obtain ⟨its, rv, p0, hl⟩ := I.tuple (.inl (.inl (by simpa using p1)))
      have p : s.heap.IsTuple a its.toArray := p0
      have hlen : its.length = ts.length := by rw [← rv.length, l1.length]
      first
        | exact SeqAt.in_tupleAt (hitV x ts its) p (hit_at I hu rx ru l1 rv e hd) ⟨.bl b, H, I, by rw [hit_any hlen e]; rfl, kk _ S _ H Ev.refl hr (.bl _) q⟩
        | exact SeqAt.notIn_tupleAt (hitV x ts its) p (hit_at I hu rx ru l1 rv e hd) ⟨.bl (!b), H, I, by rw [hit_any hlen e]; rfl, kk _ S _ H Ev.refl hr (.bl _) q⟩
    | false =>
      obtain ⟨its, rv, p0, hl⟩ := I.list (.inl (.inl (by simpa using p1)))
      have p := p0.isList
      have hlen : its.length = ts.length := by rw [← rv.length, l1.length]
      first
        | exact SeqAt.in_listAt (hitV x ts its) p (hit_at I hu rx ru l1 rv e hd) ⟨.bl b, H, I, by rw [hit_any hlen e]; rfl, kk _ S _ H Ev.refl hr (.bl _) q⟩
        | exact SeqAt.notIn_listAt (hitV x ts its) p (hit_at I hu rx ru l1 rv e hd) ⟨.bl (!b), H, I, by rw [hit_any hlen e]; rfl, kk _ S _ H Ev.refl hr (.bl _) q⟩
theorem ox_in (hu : X.A.units + 64 < cLine) : OpX X (compareOp .In) (oIn false) := ((op_strB op_in_str).or (in_seqX hu).1).imp fun x y S R h => by
  unfold oIn at h
  split at h
  · obtain ⟨a, rfl, q⟩ := h
    exact .inl ⟨a, _, rfl, rfl, by simpa [occ] using q⟩
  · exact .inr (by simpa using h)
theorem ox_notin (hu : X.A.units + 64 < cLine) : OpX X (compareOp .NotIn) (oIn true) := ((op_strB op_notIn_str).or (in_seqX hu).2).imp fun x y S R h => by
  unfold oIn at h
  split at h
  · obtain ⟨a, rfl, q⟩ := h
    exact .inl ⟨a, _, rfl, rfl, by simpa [occ] using q⟩
  · exact .inr (by simpa using h)
end
end TL

set_option Elab.async false
set_option linter.all false
set_option maxRecDepth 100000
set_option maxHeartbeats 4000000
/-! TL5: isinstance, len, places, slices, in, dicts, methods, what is walked. -/
namespace TL
open PySem L2 PyProof.Rows
/-! ### types -/
def tyT (S : Sto) : T → Option String
  | .non => some "NoneType" | .bl _ => some "bool" | .int _ => some "int" | .str _ => some "str" | .tup _ => some "tuple" | .lst _ => some "list" | .arg _ => some "list"
  | .ref a => match S a with
    | some (.lst _) => some "list"
    | some (.dK _) => some "dict"
    | some (.dT _) => some "dict"
    | none => none
theorem tyx_of {K : PySem.W.Frag} {F : Sto} {H : Hp} {S : Sto} {t : T} {v : V} {n : String} (hr : HW K F H S) (r : RpF K F H S t v) (e : tyT S t = some n) : TyX K H v (.type n) := by
  cases r with
  | non => cases e; exact .base .non
  | bl b => cases e; exact .base (.bl b)
  | int b => cases e; exact .base (.int b)
  | str b => cases e; exact .base (.str b)
  | lst h => cases e; exact .base (.lst h)
  | tup h => cases e; exact .base (.tup h)
  | ref a =>
    simp only [tyT] at e
    split at e
    · next h => cases e; obtain ⟨_, us, h1, _⟩ := hr.cell h; exact .base (.lst h1)
    · next h => cases e; obtain ⟨us, h1, _⟩ := hr.cell h; exact .base (.dK h1)
    · next h => cases e; obtain ⟨us, h1, _⟩ := hr.cell h; exact .base (.dT h1)
    · cases e
  | arg h =>
    cases e
    rcases h with ⟨h | ⟨o, h⟩, _⟩ | ⟨o, its, n, h1, h2, _⟩
    · exact .base (.lst h)
    · exact .base (.frz h)
    · exact .kList h1 h2
def isiB (a b : String) : Bool := a == b || (a == "bool" && b == "int")
theorem kit_of7 {a b : String} (ha : a ∈ ["NoneType", "bool", "int", "str", "tuple", "list", "dict"]) (hb : b ∈ ["bool", "int", "str", "tuple", "list", "dict"]) : kitB a b = some (isiB a b) := by
  have h : ∀ a ∈ ["NoneType", "bool", "int", "str", "tuple", "list", "dict"], ∀ b ∈ ["bool", "int", "str", "tuple", "list", "dict"], kitB a b = some (isiB a b) := by decide +kernel
  exact h a ha b hb
theorem ty7 {S : Sto} {t : T} {n : String} (e : tyT S t = some n) : n ∈ ["NoneType", "bool", "int", "str", "tuple", "list", "dict"] := by
  cases t <;> simp only [tyT] at e
  case ref a => split at e <;> cases e <;> simp
  all_goals (cases e; simp)
/-- isinstance(t, n) -/
def isA (n : String) (S : Sto) (t : T) : Bool := match tyT S t with
  | some a => isiB a n
  | none => false
def wIsi (n : String) (w : WE) : WE := fun ρ S R => w ρ S fun t S1 => (tyT S1 t).isSome = true ∧ R (.bl (isA n S1 t)) S1
theorem tx_isi {X : Cx} {e : Expr} {w : WE} {n : String} {cn : Str} {p p2 pos : Pos} (h : TX X e w) (hn : n ∈ ["bool", "int", "str", "tuple", "list", "dict"]) (hg : Gl X "isinstance") (hm : X.mg "isinstance" = none) (hg2 : Gl X cn) (hm2 : X.mg cn = none) (hv : bootBuiltins cn = some (.type n))
    (hn2 : cn ≠ "__name__" := by decide) (hd2 : (cn == ("__debug__" : Str)) = false := by decide) (hs1 : starEach [e, .Name cn p2] X.env = (false, eval e X.env) :: starEach [.Name cn p2] X.env := by rfl) (hs2 : starEach [.Name cn p2] X.env = (false, eval (.Name cn p2) X.env) :: starEach [] X.env := by rfl)
    (hpl : (backTo pos (starEach [.Name cn p2] X.env)).any (·.1) = false := by rfl) : TX X (.Call (.Name "isinstance" p) [e, .Name cn p2] [] pos) (wIsi n w) := by
  refine ⟨PE.imp (pe_callB call_isi hg hm (by decide +kernel) (pa_cons h.pe (pa_cons (pe_bltn (v := .ty n) hg2 hm2 hv rfl hn2 hd2) pa_nil hs2) hs1) (by decide) (by decide) hs1 hpl) fun σ H Q ⟨F, ρ, S, R, he, hr, w', k⟩ => ?_⟩
  refine ⟨F, ρ, S, _, he, hr, w', fun t S1 v H1 e1 hr1 r1 ⟨h1, h2⟩ => ?_⟩
  obtain ⟨a, ea⟩ := Option.isSome_iff_exists.mp h1
  refine ⟨v, .ty n, .type a, .type n, isiB a n, rfl, .ty n, tyx_of hr1 r1 ea, kit_ty (kit_of7 (ty7 ea) hn), ?_⟩
  have : isA n S1 t = isiB a n := by unfold isA; rw [ea]
  rw [this] at h2
  exact k _ S1 _ H1 e1 hr1 (.bl _) h2
/-! ### len -/
def lenT (S : Sto) : T → Option Nat
  | .str z => if z.length ≤ sizeLine then some z.length else none
  | .tup ts => some ts.length
  | .lst ts => some ts.length
  | .arg ns => some ns.length
  | .ref a => match S a with
    | some (.lst ts) => some ts.length
    | some (.dK ts) => some ts.length
    | some (.dT ts) => some ts.length
    | none => none
  | _ => none
theorem RpK.length {K : PySem.W.Frag} {H : Hp} {S : Sto} {κ : Type} : ∀ {ts : List (κ × T)} {vs : List (κ × V)}, RpK K H S ts vs → ts.length = vs.length
  | _, _, .nil => rfl
  | _, _, .cons _ l => congrArg (· + 1) (RpK.length l)
def oLen : List T → Sto → Post → Prop := fun xs S R => ∃ x n, xs = [x] ∧ lenT S x = some n ∧ R (.int (n : Nat)) S
section
variable {X : Cx}
theorem cx_len : CallX X (.builtin "len") oLen := by
  refine ⟨_, ((call_len_seq.or call_len_str).or call_lenD).or call_len_dT, fun F H S xs vs R Q hr rx ⟨x, n, e, h, q⟩ k => ?_⟩
  subst e
  cases rx with
  | cons r rr =>
    cases rr
    cases r with
    | str z =>
      simp only [lenT] at h
      split at h
      · next hz => cases h; exact .inl (.inl (.inr ⟨z, rfl, hz, k _ S _ H Ev.refl hr (.int _) q⟩))
      · cases h
    | lst h1 h2 h3 h4 =>
      cases h
      refine .inl (.inl (.inl ⟨_, _, rfl, .inl (.inl (.inl h1)), ?_⟩))
      rw [← h4.length]
      exact k _ S _ H Ev.refl hr (.int _) q
    | tup h1 h3 h4 =>
      cases h
      refine .inl (.inl (.inl ⟨_, _, rfl, .inr (.inl (.inl h1)), ?_⟩))
      rw [← h4.length]
      exact k _ S _ H Ev.refl hr (.int _) q
    | arg h1 =>
      cases h
      refine .inl (.inl (.inl ⟨_, _, rfl, .inl h1.seq, ?_⟩))
      rw [List.length_map]
      exact k _ S _ H Ev.refl hr (.int _) q
    | ref a =>
      simp only [lenT] at h
      split at h
      · next hc =>
        cases h
        obtain ⟨_, us, h1, l⟩ := hr.cell hc
        refine .inl (.inl (.inl ⟨_, _, rfl, .inl (.inl (.inl h1)), ?_⟩))
        rw [← l.length]
        exact k _ S _ H Ev.refl hr (.int _) q
      · next hc =>
        cases h
        obtain ⟨us, h1, l⟩ := hr.cell hc
        refine .inl (.inr ⟨_, _, rfl, h1, ?_⟩)
        rw [← RpK.length l]
        exact k _ S _ H Ev.refl hr (.int _) q
      · next hc =>
        cases h
        obtain ⟨us, h1, l⟩ := hr.cell hc
        refine .inr ⟨_, _, rfl, h1, ?_⟩
        rw [← RpK.length l]
        exact k _ S _ H Ev.refl hr (.int _) q
      · cases h
    | _ => simp [lenT] at h
/-! ### a place -/
/-- what is read by its place: a list (a tree, a cell), a tuple -/
def seqT (S : Sto) : T → Option (List T)
  | .tup ts => some ts
  | .lst ts => some ts
  | .arg ns => some (ns.map T.int)
  | .ref a => match S a with
    | some (.lst ts) => some ts
    | _ => none
  | _ => none
theorem seq_of {K : PySem.W.Frag} {F : Sto} {H : Hp} {S : Sto} {t : T} {v : V} {ts : List T} (hr : HW K F H S) (r : RpF K F H S t v) (e : seqT S t = some ts) : ∃ a us, v = .ref a ∧ (SqL K H a us ∨ SqT K H a us) ∧ RpLF K F H S ts us := by
  cases r with
  | lst h1 h2 h3 h4 => cases e; exact ⟨_, _, rfl, .inl (.inl (.inl h1)), h4⟩
  | tup h1 h3 h4 => cases e; exact ⟨_, _, rfl, .inr (.inl (.inl h1)), h4⟩
  | arg h1 => cases e; exact ⟨_, _, rfl, .inl h1.seq, rpl_ints _⟩
  | ref a =>
    simp only [seqT] at e
    split at e
    · next hc =>
      cases e
      obtain ⟨_, us, h1, l⟩ := hr.cell hc
      exact ⟨_, _, rfl, .inl (.inl (.inl h1)), l⟩
    · cases e
  | _ => simp [seqT] at e
def oIx : T → T → Sto → Post → Prop
  | .str z, .int i, S, R => z.length ≤ sizeLine ∧ ∃ c, atI z.cps.toList i = some c ∧ R (.str ⟨#[c]⟩) S
  | x, .int i, S, R => ∃ ts t, seqT S x = some ts ∧ atI ts i = some t ∧ R t S
  | _, _, _, _ => False
theorem at_rel {K : PySem.W.Frag} {H : Hp} {S : Sto} {ts : List T} {us : List V} {i : Int} {t : T} (l : RpL K H S ts us) (e : atI ts i = some t) : ∃ v, atI us i = some v ∧ Rp K H S t v := by
  unfold atI at e ⊢
  rw [← l.length]
  cases h : ixN ts.length i with
  | none => rw [h] at e; cases e
  | some j =>
    rw [h] at e
    exact l.get' e
theorem ix_any : IxX X oIx := by
  refine ⟨_, ix_seq, fun F H S x y v u R Q hr rx ry h k => ?_⟩
  unfold oIx at h
  split at h
  · obtain ⟨hz, c, hc, q⟩ := h
    cases rx; cases ry
    exact .inr (.inr ⟨_, _, c, rfl, rfl, hz, hc, k _ S _ H Ev.refl hr (.str _) q⟩)
  · obtain ⟨ts, t, h1, h2, q⟩ := h
    cases ry
    obtain ⟨a, us, rfl, hs, l⟩ := seq_of hr rx h1
    obtain ⟨v, h3, r3⟩ := at_rel l h2
    rcases hs with hs | hs
    · exact .inl ⟨a, us, _, v, rfl, rfl, hs, h3, k _ S _ H Ev.refl hr r3 q⟩
    · exact .inr (.inl ⟨a, us, _, v, rfl, rfl, hs, h3, k _ S _ H Ev.refl hr r3 q⟩)
  · exact h.elim
theorem tx_ix {a b : Expr} {wa wb : WE} {pos : Pos} (ha : TX X a wa) (hb : TX X b wb) (hs : PlainIx b := by exact fun _ _ => rfl) : TX X (.Subscript a b pos) (wOp oIx wa wb) := by
  obtain ⟨r, h1, h2⟩ := ix_any (X := X)
  exact ⟨PE.imp (pe_ix h1 ha.pe hb.pe hs) fun σ H Q h => up_two h2 h⟩
/-! ### a slice -/
abbrev WO := Sl → Sto → (Option Int → Sto → Prop) → Prop
def upO (K : PySem.W.Frag) (w : WO) : TO := fun σ H Q => ∃ F ρ S R, EnvF K F H S ρ σ ∧ HW K F H S ∧ w ρ S R ∧ ∀ o S' H', EvF K F H S H' S' → HW K F H' S' → R o S' → Q o H'
structure TOt (X : Cx) (e : Option Expr) (w : WO) : Prop where
  po : PO X e (upO X.K w)
def wNoPart : WO := fun _ S R => R none S
def wPart (w : WE) : WO := fun ρ S R => w ρ S fun t S1 => ∃ i, t = .int i ∧ R (some i) S1
theorem to_none : TOt X none wNoPart := ⟨⟨fun pins s σ H Q I ⟨F, ρ, S, R, he, hr, w, k⟩ => po_none.run pins s σ H Q I (k none S H Ev.refl hr w)⟩⟩
theorem to_some {e : Expr} {w : WE} (h : TX X e w) : TOt X (some e) (wPart w) := ⟨⟨fun pins s σ H Q I ⟨F, ρ, S, R, he, hr, w', k⟩ => (po_some h.pe).run pins s σ H Q I ⟨F, ρ, S, _, he, hr, w', fun t S1 v H1 e1 hr1 r1 ⟨i, e2, q⟩ => by
  subst e2
  cases r1
  exact ⟨i, rfl, k _ S1 H1 e1 hr1 q⟩⟩⟩⟩
/-- the part from lo to hi -/
def cutT {α : Type} (xs : List α) (lo hi : Option Int) : List α := (xs.drop (HT.sIx xs.length 0 lo)).take (HT.sIx xs.length xs.length hi - HT.sIx xs.length 0 lo)
theorem RpL.cut {K : PySem.W.Frag} {H : Hp} {S : Sto} {ts : List T} {us : List V} (l : RpL K H S ts us) (lo hi : Option Int) : RpL K H S (cutT ts lo hi) (cutV us lo hi) := by
  unfold cutT cutV
  rw [l.length]
  exact (l.drop _).take _
theorem cutT_len {α : Type} (xs : List α) (lo hi : Option Int) : (cutT xs lo hi).length ≤ xs.length := by
  unfold cutT
  rw [List.length_take, List.length_drop]
  omega
theorem cut_map {α β : Type} (f : α → β) (xs : List α) (lo hi : Option Int) : cutT (xs.map f) lo hi = (cutT xs lo hi).map f := by
  unfold cutT
  rw [List.length_map, List.map_take, List.map_drop]
theorem cutT_all {α : Type} (xs : List α) (lo hi : Option Int) (h : HT.sIx xs.length 0 lo = 0 ∧ HT.sIx xs.length xs.length hi = xs.length) : cutT xs lo hi = xs := by
  unfold cutT
  rw [h.1, h.2]
  simp
def oSl : T → Option Int → Option Int → Sto → Post → Prop
  | .str z, lo, hi, S, R => z.length ≤ sizeLine ∧ R (.str (cutS z lo hi)) S
  | .tup ts, lo, hi, S, R => R (.tup (cutT ts lo hi)) S
  | .arg ns, lo, hi, S, R => R (.lst ((cutT ns lo hi).map T.int)) S
  | x, lo, hi, S, R => ∃ ts, asL S x = some ts ∧ R (.lst (cutT ts lo hi)) S
def wSl (w : WE) (wl wh : WO) : WE := fun ρ S R => w ρ S fun x S1 => wl ρ S1 fun l S2 => wh ρ S2 fun h S3 => oSl x l h S3 R
theorem tx_sl {e : Expr} {lo hi : Option Expr} {w : WE} {wl wh : WO} {pos p2 : Pos} (he : TX X e w) (hl : TOt X lo wl) (hh : TOt X hi wh) : TX X (.Subscript e (.Slice lo hi none p2) pos) (wSl w wl wh) := by
  refine ⟨PE.imp (pe_slice ((sl_str.or sl_tupA).or sl_list) he.pe hl.po hh.po) fun σ H Q ⟨F, ρ, S, R, en, hr, w', k⟩ => ?_⟩
  refine ⟨F, ρ, S, _, en, hr, w', fun x S1 v H1 e1 hr1 r1 h1 => ⟨F, ρ, S1, _, en.ev e1, hr1, h1, fun l S2 H2 e2 hr2 h2 => ⟨F, ρ, S2, _, (en.ev e1).ev e2, hr2, h2, fun h_ S3 H3 e3 hr3 h3 => ?_⟩⟩⟩
  have r3 := (r1.ev e2).ev e3
  have ee := (e1.trans e2).trans e3
  cases r3 with
  | str z => exact .inl (.inl ⟨z, rfl, h3.1, k _ S3 _ H3 ee hr3 (.str _) h3.2⟩)
  | tup a b c =>
    refine .inl (.inr ⟨_, _, rfl, .inl (.inl a), fun hw => ?_, fun hw p hp => ?_⟩)
    · rw [← c.length] at hw
      rw [show oSl (.tup _) l h_ S3 R = R (.tup (cutT _ l h_)) S3 from rfl, cutT_all _ _ _ hw] at h3
      exact k _ S3 _ H3 ee hr3 (.tup a b c) h3
    · exact k _ S3 _ _ (ee.trans (Ev.laid hp)) (hr3.laid hp) (.tup upd_same (Nat.le_trans (cutT_len _ _ _) b) ((c.cut l h_).ev (Ev.laid hp))) h3
  | lst a b c d =>
    obtain ⟨ts, h4, h5⟩ := h3
    simp only [asL] at h4
    cases h4
    exact .inr ⟨_, _, rfl, .inl (.inl a), fun p hp => k _ S3 _ _ (ee.trans (Ev.laid hp)) (hr3.laid hp) (.lst upd_same (hr3.2.none hp) (Nat.le_trans (cutT_len _ _ _) c) ((d.cut l h_).ev (Ev.laid hp))) h5⟩
  | ref a =>
    obtain ⟨ts, h4, h5⟩ := h3
    obtain ⟨p1, us, e4, h6, l6, z6⟩ := asL_lst hr3 (.ref a) h4
    exact .inr ⟨_, _, e4, .inl (.inl h6), fun p hp => k _ S3 _ _ (ee.trans (Ev.laid hp)) (hr3.laid hp) (.lst upd_same (hr3.2.none hp) (Nat.le_trans (cutT_len _ _ _) z6) ((l6.cut l h_).ev (Ev.laid hp))) h5⟩
  | @arg a ns h z =>
    have em : cutV (ns.map V.int) l h_ = (cutT ns l h_).map V.int := cut_map V.int ns l h_
    refine .inr ⟨_, _, rfl, h.seq, fun p hp => ?_⟩
    rw [em]
    exact k _ S3 _ _ (ee.trans (Ev.laid hp)) (hr3.laid hp) (.lst upd_same (hr3.2.none hp) (by rw [List.length_map]; exact Nat.le_trans (cutT_len _ _ _) z) (rpl_ints _)) h3
  | non => obtain ⟨ts, h4, h5⟩ := h3; simp [asL] at h4
  | bl b => obtain ⟨ts, h4, h5⟩ := h3; simp [asL] at h4
  | int b => obtain ⟨ts, h4, h5⟩ := h3; simp [asL] at h4
end
end TL

set_option Elab.async false
set_option linter.all false
set_option maxRecDepth 100000
set_option maxHeartbeats 4000000
/-! TL6: dicts, methods, stores, what is walked, built-ins. -/
namespace TL
open PySem L2 PyProof.Rows
/-! ### dicts -/
section
variable {κ : Type} [DecidableEq κ]
def valT (kvs : List (κ × T)) (k : κ) : Option T := (kvs.find? fun kv => decide (kv.1 = k)).map (·.2)
def putT (kvs : List (κ × T)) (k : κ) (v : T) : List (κ × T) :=
  if (kvs.any fun kv => decide (kv.1 = k)) = true then kvs.map (fun kv => if kv.1 = k then (kv.1, v) else kv) else kvs ++ [(k, v)]
variable {K : PySem.W.Frag} {H : Hp} {S : Sto}
theorem val_rel {k : κ} : ∀ {kvs : List (κ × T)} {vs : List (κ × V)}, RpK K H S kvs vs → (∀ t, valT kvs k = some t → ∃ v, valV vs k = some v ∧ Rp K H S t v) ∧ (valT kvs k = none → valV vs k = none)
  | _, _, .nil => ⟨fun t h => by simp [valT] at h, fun _ => rfl⟩
  | (a, t) :: kvs, (b, v) :: vs, .cons ⟨e, r⟩ l => by
    have e' : a = b := e
    subst e'
    obtain ⟨h1, h2⟩ := val_rel (k := k) l
    by_cases h : a = k
    · have e1 : valT ((a, t) :: kvs) k = some t := by simp [valT, List.find?_cons, h]
      have e2 : valV ((a, v) :: vs) k = some v := valV_pos h
      rw [e1, e2]
      exact ⟨fun t' q => by cases q; exact ⟨v, rfl, r⟩, fun q => by cases q⟩
    · have e1 : valT ((a, t) :: kvs) k = valT kvs k := by simp [valT, List.find?_cons, h]
      have e2 : valV ((a, v) :: vs) k = valV vs k := valV_neg h
      rw [e1, e2]
      exact ⟨h1, h2⟩
theorem any_rel {k : κ} : ∀ {kvs : List (κ × T)} {vs : List (κ × V)}, RpK K H S kvs vs → (kvs.any fun kv => decide (kv.1 = k)) = (vs.any fun kv => decide (kv.1 = k))
  | _, _, .nil => rfl
  | (a, t) :: kvs, (b, v) :: vs, .cons ⟨e, r⟩ l => by
    have e' : a = b := e
    subst e'
    rw [List.any_cons, List.any_cons, any_rel l]
theorem map_rel {k : κ} {t : T} {v : V} (r : Rp K H S t v) : ∀ {kvs : List (κ × T)} {vs : List (κ × V)}, RpK K H S kvs vs → RpK K H S (kvs.map fun kv => if kv.1 = k then (kv.1, t) else kv) (vs.map fun kv => if kv.1 = k then (kv.1, v) else kv)
  | _, _, .nil => .nil
  | (a, t') :: kvs, (b, v') :: vs, .cons ⟨e, r'⟩ l => by
    have e' : a = b := e
    subst e'
    rw [List.map_cons, List.map_cons]
    refine .cons ?_ (map_rel r l)
    by_cases h : a = k
    · rw [if_pos h, if_pos h]; exact ⟨rfl, r⟩
    · rw [if_neg h, if_neg h]; exact ⟨rfl, r'⟩
theorem put_rel {k : κ} {t : T} {v : V} (r : Rp K H S t v) {kvs : List (κ × T)} {vs : List (κ × V)} (l : RpK K H S kvs vs) : RpK K H S (putT kvs k t) (putK vs k v) := by
  unfold putT putK
  rw [any_rel l]
  split
  · exact map_rel r l
  · exact Paired.append l (.cons ⟨rfl, r⟩ .nil)
end
def keyT : T → Option Key
  | .int i => some (.inl i)
  | .str x => some (.inr x)
  | _ => none
def keysT : List T → Option (List Key)
  | [] => some []
  | t :: ts => match keyT t, keysT ts with
    | some k, some ks => some (k :: ks)
    | _, _ => none
theorem key_rel {K : PySem.W.Frag} {H : Hp} {S : Sto} {t : T} {v : V} {k : Key} (r : Rp K H S t v) (e : keyT t = some k) : v = kV k := by
  cases r <;> simp [keyT] at e <;> subst e <;> rfl
theorem keys_rel {K : PySem.W.Frag} {H : Hp} {S : Sto} : ∀ {ts : List T} {vs : List V} {ks : List Key}, RpL K H S ts vs → keysT ts = some ks → vs = ks.map kV
  | _, _, _, .nil, e => by simp [keysT] at e; subst e; rfl
  | t :: ts, _, _, .cons r l, e => by
    simp only [keysT] at e
    split at e
    · next k ks h1 h2 =>
      cases e
      rw [key_rel r h1, keys_rel l h2]
      rfl
    · cases e
/-- what stands in the dict a under y: none where there is no such key, or y is none for a dict -/
def dgT (S : Sto) (a : Addr) (y : T) : Option (Option T) := match S a with
  | some (.dK kvs) => (keyT y).map fun k => valT kvs k
  | some (.dT kvs) => match y with
    | .tup ts => (keysT ts).map fun ks => valT kvs ks
    | _ => none
  | _ => none
def RelOV (K : PySem.W.Frag) (F : Sto) (H : Hp) (S : Sto) (o : Option T) (ov : Option V) : Prop := (∀ t, o = some t → ∃ v, ov = some v ∧ RpF K F H S t v) ∧ (o = none → ov = none)
theorem dg_ok {K : PySem.W.Frag} {F : Sto} {H : Hp} {S : Sto} {a : Addr} {y : T} {u : V} {o : Option T} (hr : HW K F H S) (r : RpF K F H S y u) (e : dgT S a y = some o) : ∃ ov, DGet H a u ov ∧ RelOV K F H S o ov := by
  unfold dgT at e
  split at e
  · next kvs h =>
    obtain ⟨vs, h1, l⟩ := hr.cell h
    cases hk : keyT y with
    | none => rw [hk] at e; cases e
    | some k =>
      rw [hk] at e
      cases e
      rw [key_rel r hk]
      exact ⟨_, DGet.k h1, val_rel l⟩
  · next kvs h =>
    obtain ⟨vs, h1, l⟩ := hr.cell h
    split at e
    · next ts =>
      cases hk : keysT ts with
      | none => rw [hk] at e; cases e
      | some k =>
        rw [hk] at e
        cases e
        cases r with
        | tup h2 h3 h4 =>
          rw [keys_rel h4 hk] at h2
          exact ⟨_, DGet.t h1 h2, val_rel l⟩
    · cases e
  · cases e
/-- the cell behind a[y] = t -/
def dPutT0 (S : Sto) (a : Addr) (y t : T) : Option Cell := match S a with
  | some (.dK kvs) => if kvs.length < sizeLine then (keyT y).map fun k => .dK (putT kvs k t) else none
  | some (.dT kvs) => if kvs.length < sizeLine then (match y with
    | .tup ts => (keysT ts).map fun ks => .dT (putT kvs ks t)
    | _ => none) else none
  | _ => none
theorem dp_ok {K : PySem.W.Frag} {F : Sto} {H : Hp} {S : Sto} {a : Addr} {y t : T} {u v : V} {c : Cell} (hr : HW K F H S) (r : RpF K F H S y u) (rt : RpF K F H S t v) (e : dPutT0 S a y t = some c) :
    ∃ o, DPut H a u v (upd H a o) ∧ EvF K F H S (upd H a o) (supd S a c) ∧ HW K F (upd H a o) (supd S a c) := by
  unfold dPutT0 at e
  split at e
  · next kvs h =>
    obtain ⟨vs, h1, l⟩ := hr.cell h
    split at e
    · next hz =>
      cases hk : keyT y with
      | none => rw [hk] at e; cases e
      | some k =>
        rw [hk] at e
        cases e
        rw [key_rel r hk]
        have ev : EvF K F H S (upd H a (.dK (putK vs k v))) (supd S a (.dK (putT kvs k t))) := evf_cell hr (by rw [h]; rfl)
        exact ⟨_, DPut.k h1 (by rw [← RpK.length l]; exact hz), ev, hw_cell hr (by rw [h]; rfl) ⟨_, upd_same, (put_rel rt l).ev ev⟩⟩
    · cases e
  · next kvs h =>
    obtain ⟨vs, h1, l⟩ := hr.cell h
    split at e
    · next hz =>
      split at e
      · next ts =>
        cases hk : keysT ts with
        | none => rw [hk] at e; cases e
        | some k =>
          rw [hk] at e
          cases e
          cases r with
          | tup h2 h3 h4 =>
            rw [keys_rel h4 hk] at h2
            have ev : EvF K F H S (upd H a (.dT (putK vs k v))) (supd S a (.dT (putT kvs k t))) := evf_cell hr (by rw [h]; rfl)
            exact ⟨_, DPut.t h1 h2 (by rw [← RpK.length l]; exact hz), ev, hw_cell hr (by rw [h]; rfl) ⟨_, upd_same, (put_rel rt l).ev ev⟩⟩
      · cases e
    · cases e
  · cases e
def wDGet (wd wy : WE) : WE := fun ρ S R => wd ρ S fun x S1 => wy ρ S1 fun y S2 => ∃ a t, x = .ref a ∧ dgT S2 a y = some (some t) ∧ R t S2
def wDIn (neg : Bool) (wy wd : WE) : WE := fun ρ S R => wy ρ S fun y S1 => wd ρ S1 fun x S2 => ∃ a o, x = .ref a ∧ dgT S2 a y = some o ∧ R (.bl (if neg then !o.isSome else o.isSome)) S2
def isD (S : Sto) (a : Addr) : Bool := match S a with
  | some (.dK _) => true
  | some (.dT _) => true
  | _ => false
theorem isD_of {K : PySem.W.Frag} {F : Sto} {H : Hp} {S : Sto} {a : Addr} (hr : HW K F H S) (e : isD S a = true) : IsD H a := by
  unfold isD at e
  split at e
  · next h => obtain ⟨us, h1, _⟩ := hr.cell h; exact .inl ⟨_, .inl h1⟩
  · next h => obtain ⟨us, h1, _⟩ := hr.cell h; exact .inr ⟨_, .inl h1⟩
  · cases e
/-- d.get(y) -/
def wDGet1 (wd wy : WE) : WE := fun ρ S R => wd ρ S fun x S1 => ∃ a, x = .ref a ∧ isD S1 a = true ∧ wy ρ S1 fun y S2 => ∃ o, dgT S2 a y = some o ∧ R (o.getD .non) S2
/-- d.get(y, z) -/
def wDGet2 (wd wy wz : WE) : WE := fun ρ S R => wd ρ S fun x S1 => ∃ a, x = .ref a ∧ isD S1 a = true ∧ wy ρ S1 fun y S2 => wz ρ S2 fun z S3 => ∃ o, dgT S3 a y = some o ∧ R (o.getD z) S3
def sDPutT (wd wy wv : WE) : WS := fun E ρ S => wv ρ S fun t S1 => wd ρ S1 fun x S2 => wy ρ S2 fun y S3 => ∃ a c, x = .ref a ∧ dPutT0 S3 a y t = some c ∧ E.nx ρ (supd S3 a c)
theorem relov_none {K : PySem.W.Frag} {F : Sto} {H : Hp} {S : Sto} {o : Option T} {ov : Option V} (h : RelOV K F H S o ov) : ov.isSome = o.isSome := by
  cases o with
  | none => rw [h.2 rfl]; rfl
  | some t => obtain ⟨v, e, _⟩ := h.1 t rfl; rw [e]; rfl
section
variable {X : Cx} {o i f value : Expr} {wd wy wz wv : WE} {pos pos' : Pos}
theorem tx_dget (hu : X.A.units + 1 < cLine) (ho : TX X o wd) (hi : TX X i wy) (hs : NoSl i := by exact fun _ _ => rfl) : TX X (.Subscript o i pos) (wDGet wd wy) := by
  refine ⟨PE.imp (pe_dget hu ho.pe hi.pe hs) fun σ H Q ⟨F, ρ, S, R, he, hr, w', k⟩ => ?_⟩
  refine ⟨F, ρ, S, _, he, hr, w', fun x S1 v H1 e1 hr1 r1 h1 => ⟨F, ρ, S1, _, he.ev e1, hr1, h1, fun y S2 u H2 e2 hr2 r2 ⟨a, t, e3, h3, q⟩ => ?_⟩⟩
  subst e3
  cases r1
  obtain ⟨ov, g, l⟩ := dg_ok hr2 r2 h3
  obtain ⟨v3, e4, r4⟩ := l.1 t rfl
  subst e4
  exact ⟨a, v3, rfl, g, k _ S2 _ H2 (e1.trans e2) hr2 r4 q⟩
theorem up_din {neg : Bool} {td ty : TE} {σ : L2.St} {H : Hp} {Q : VK} (h : up X.K (wDIn neg wy wd) σ H Q) : (if neg = true then tDNotIn (up X.K wy) (up X.K wd) else tDIn (up X.K wy) (up X.K wd)) σ H Q := by
  obtain ⟨F, ρ, S, R, he, hr, w', k⟩ := h
  have key : up X.K wy σ H fun y H1 => up X.K wd σ H1 fun x H2 => ∃ a o, x = .ref a ∧ DGet H2 a y o ∧ Q (.bl (if neg then !o.isSome else o.isSome)) H2 := by
    refine ⟨F, ρ, S, _, he, hr, w', fun y S1 u H1 e1 hr1 r1 h1 => ⟨F, ρ, S1, _, he.ev e1, hr1, h1, fun x S2 v H2 e2 hr2 r2 ⟨a, o, e3, h3, q⟩ => ?_⟩⟩
    subst e3
    cases r2
    obtain ⟨ov, g, l⟩ := dg_ok hr2 (r1.ev e2) h3
    refine ⟨a, ov, rfl, g, ?_⟩
    rw [relov_none l]
    exact k _ S2 _ H2 (e1.trans e2) hr2 (.bl _) q
  cases neg
  · exact key
  · exact key
theorem pc_e {op : CmpOp} {a b : Expr} {t : TE} (h : PC X op a b t) (h1 : behindInMarks op b = false := by first | exact nobehind _ (by decide) (by decide) | rfl) : PE X (.Compare a [op] [b] pos) t := pe_cmp h h1
theorem tx_din (hu : X.A.units + 1 < cLine) (hi : TX X i wy) (ho : TX X o wd) (h1 : behindInMarks .In o = false := by first | exact nobehind _ (by decide) (by decide) | rfl) : TX X (.Compare i [.In] [o] pos) (wDIn false wy wd) :=
  ⟨PE.imp (pe_cmp (pc_din hu hi.pe ho.pe) h1) fun σ H Q h => up_din (neg := false) (td := up X.K wd) (ty := up X.K wy) h⟩
theorem tx_dnotin (hu : X.A.units + 1 < cLine) (hi : TX X i wy) (ho : TX X o wd) (h1 : behindInMarks .NotIn o = false := by first | exact nobehind _ (by decide) (by decide) | rfl) : TX X (.Compare i [.NotIn] [o] pos) (wDIn true wy wd) :=
  ⟨PE.imp (pe_cmp (pc_dnotin hu hi.pe ho.pe) h1) fun σ H Q h => up_din (neg := true) (td := up X.K wd) (ty := up X.K wy) h⟩
theorem tb_din (hu : X.A.units + 1 < cLine) (hi : TX X i wy) (ho : TX X o wd) (h1 : behindInMarks .In o = false := by first | exact nobehind _ (by decide) (by decide) | rfl) : TB X (.Compare i [.In] [o] pos) (wTst (wDIn false wy wd)) :=
  ⟨PT.imp (pt_cmp (pc_din hu hi.pe ho.pe) h1) fun σ H Q h => upB_tst (fun q => up_din (neg := false) (td := up X.K wd) (ty := up X.K wy) q) h⟩
theorem tb_dnotin (hu : X.A.units + 1 < cLine) (hi : TX X i wy) (ho : TX X o wd) (h1 : behindInMarks .NotIn o = false := by first | exact nobehind _ (by decide) (by decide) | rfl) : TB X (.Compare i [.NotIn] [o] pos) (wTst (wDIn true wy wd)) :=
  ⟨PT.imp (pt_cmp (pc_dnotin hu hi.pe ho.pe) h1) fun σ H Q h => upB_tst (fun q => up_din (neg := true) (td := up X.K wd) (ty := up X.K wy) q) h⟩
theorem tx_dget1 {apos : Pos} (hu : X.A.units + 1 < cLine) (ho : TX X o wd) (he : TX X i wy) (m : M1 X o "get" apos i pos) : TX X (.Call (.Attribute o "get" apos) [i] [] pos) (wDGet1 wd wy) := by
  refine ⟨PE.imp (pe_dget1 hu ho.pe he.pe m) fun σ H Q ⟨F, ρ, S, R, he, hr, w', k⟩ => ?_⟩
  refine ⟨F, ρ, S, _, he, hr, w', fun x S1 v H1 e1 hr1 r1 ⟨a, e3, hd, h1⟩ => ?_⟩
  subst e3
  cases r1
  refine ⟨a, rfl, isD_of hr1 hd, F, ρ, S1, _, he.ev e1, hr1, h1, fun y S2 u H2 e2 hr2 r2 ⟨ot, h3, q⟩ => ?_⟩
  obtain ⟨ov, g, l⟩ := dg_ok hr2 r2 h3
  refine ⟨ov, g, ?_⟩
  cases ot with
  | none => rw [l.2 rfl]; exact k _ S2 _ H2 (e1.trans e2) hr2 .non q
  | some t =>
    obtain ⟨v3, e4, r4⟩ := l.1 t rfl
    rw [e4]
    exact k _ S2 _ H2 (e1.trans e2) hr2 r4 q
theorem tx_dget2 {apos : Pos} (hu : X.A.units + 1 < cLine) (ho : TX X o wd) (he : TX X i wy) (hf : TX X f wz) (m : M2 X o "get" apos i f pos) : TX X (.Call (.Attribute o "get" apos) [i, f] [] pos) (wDGet2 wd wy wz) := by
  refine ⟨PE.imp (pe_dget2 hu ho.pe he.pe hf.pe m) fun σ H Q ⟨F, ρ, S, R, he, hr, w', k⟩ => ?_⟩
  refine ⟨F, ρ, S, _, he, hr, w', fun x S1 v H1 e1 hr1 r1 ⟨a, e3, hd, h1⟩ => ?_⟩
  subst e3
  cases r1
  refine ⟨a, rfl, isD_of hr1 hd, F, ρ, S1, _, he.ev e1, hr1, h1, fun y S2 u H2 e2 hr2 r2 h2 => ⟨F, ρ, S2, _, (he.ev e1).ev e2, hr2, h2, fun z S3 vz H3 e5 hr3 r3 ⟨ot, h3, q⟩ => ?_⟩⟩
  obtain ⟨ov, g, l⟩ := dg_ok hr3 (r2.ev e5) h3
  refine ⟨ov, g, ?_⟩
  cases ot with
  | none => rw [l.2 rfl]; exact k _ S3 _ H3 ((e1.trans e2).trans e5) hr3 r3 q
  | some t =>
    obtain ⟨v3, e4, r4⟩ := l.1 t rfl
    rw [e4]
    exact k _ S3 _ H3 ((e1.trans e2).trans e5) hr3 r4 q
theorem ts_dput (hu : X.A.units + 1 < cLine) (ho : TX X o wd) (hi : TX X i wy) (hv : TX X value wv) (hs : swapsWith value (some (.Subscript o i pos')) pos.line X.env = pure false := by rfl) : TSt X (.Assign [.Subscript o i pos'] value pos) (sDPutT wd wy wv) := by
  refine ⟨PS.imp (ps_dput hu ho.pe hi.pe hv.pe hs) fun D σ H ⟨F, ρ, S, E, he, hr, w', l⟩ => ?_⟩
  refine ⟨F, ρ, S, _, he, hr, w', fun t S1 v H1 e1 hr1 r1 h1 => ⟨F, ρ, S1, _, he.ev e1, hr1, h1, fun x S2 vx H2 e2 hr2 r2 h2 => ⟨F, ρ, S2, _, (he.ev e1).ev e2, hr2, h2, fun y S3 u H3 e3 hr3 r3 ⟨a, c, e4, h4, q⟩ => ?_⟩⟩⟩
  subst e4
  cases r2
  obtain ⟨ob, g, ev, hw⟩ := dp_ok hr3 r3 ((r1.ev e2).ev e3) h4
  have ee := (e1.trans e2).trans e3
  exact ⟨a, _, rfl, g, l.nx ρ _ σ _ (ee.trans ev) hw ((he.ev ee).ev ev) q⟩
theorem tx_dnewK : TX X (.Dict [] [] pos) (fun _ S R => ∀ a, S a = none → R (.ref a) (supd S a (.dK []))) :=
  ⟨PE.imp pe_dnewK fun σ H Q ⟨F, ρ, S, R, he, hr, w', k⟩ => fun p hp => k (.ref p) (supd S p (.dK [])) _ _ (evf_new hr hp) (hw_new hr hp ⟨[], upd_same, .nil⟩) (.ref p) (w' p (hr.none hp))⟩
theorem tx_dnewT : TX X (.Dict [] [] pos) (fun _ S R => ∀ a, S a = none → R (.ref a) (supd S a (.dT []))) :=
  ⟨PE.imp pe_dnewT fun σ H Q ⟨F, ρ, S, R, he, hr, w', k⟩ => fun p hp => k (.ref p) (supd S p (.dT [])) _ _ (evf_new hr hp) (hw_new hr hp ⟨[], upd_same, .nil⟩) (.ref p) (w' p (hr.none hp))⟩
end
/-! ### a dict display with text or int keys -/
def wPairs : List (WE × WE) → Sl → Sto → (List (T × T) → Sto → Prop) → Prop
  | [], _, S, R => R [] S
  | (wk, wv) :: r, ρ, S, R => wk ρ S fun x S1 => wv ρ S1 fun y S2 => wPairs r ρ S2 fun ps S3 => R ((x, y) :: ps) S3
def keyPs : List (T × T) → Option (List (Key × T))
  | [] => some []
  | (x, y) :: r => match keyT x, keyPs r with
    | some k, some ks => some ((k, y) :: ks)
    | _, _ => none
def mergeT (kvs more : List (Key × T)) : List (Key × T) := more.foldl (fun acc kv => putT acc kv.1 kv.2) kvs
def wDisp (trs : List (WE × WE)) : WE := fun ρ S R => wPairs trs ρ S fun ps S1 => ∃ kvs, keyPs ps = some kvs ∧ kvs.length ≤ 15 ∧ ∀ a, S1 a = none → R (.ref a) (supd S1 a (.dK (mergeT [] kvs)))
structure TPs (X : Cx) (pos : Pos) (keys : List (Option Expr)) (values : List Expr) (trs : List (WE × WE)) : Prop where
  pps : PPs X pos keys values (trs.map fun p => (up X.K p.1, up X.K p.2))
theorem tps_nil {X : Cx} {pos : Pos} : TPs X pos [] [] [] := ⟨pps_nil⟩
theorem tps_cons {X : Cx} {pos : Pos} {k v : Expr} {ks : List (Option Expr)} {vs : List Expr} {wk wv : WE} {trs : List (WE × WE)} (hk : TX X k wk) (hv : TX X v wv) (hr : TPs X pos ks vs trs) : TPs X pos (some k :: ks) (v :: vs) ((wk, wv) :: trs) := ⟨pps_cons hk.pe hv.pe hr.pps⟩
abbrev RpP (K : PySem.W.Frag) (F : Sto) (H : Hp) (S : Sto) : List (T × T) → List (V × V) → Prop := Paired fun p q => RpF K F H S p.1 q.1 ∧ RpF K F H S p.2 q.2
theorem RpP.ev {K : PySem.W.Frag} {F : Sto} {H H1 : Hp} {S S1 : Sto} (e : EvF K F H S H1 S1) {ps : List (T × T)} {qs : List (V × V)} (h : RpP K F H S ps qs) : RpP K F H1 S1 ps qs := Paired.imp (fun _ _ ⟨a, b⟩ => ⟨a.ev e, b.ev e⟩) h
theorem pairs_up {K : PySem.W.Frag} {F : Sto} : ∀ {trs : List (WE × WE)} {σ : L2.St} {H : Hp} {ρ : Sl} {S : Sto} {R : List (T × T) → Sto → Prop} {Q : List (V × V) → Hp → Prop}, EnvF K F H S ρ σ → HW K F H S → wPairs trs ρ S R →
    (∀ ps S' qs H', EvF K F H S H' S' → HW K F H' S' → RpP K F H' S' ps qs → R ps S' → Q qs H') → tPairs (trs.map fun p => (up K p.1, up K p.2)) σ H Q
  | [], σ, H, ρ, S, R, Q, he, hr, w, k => k [] S [] H Ev.refl hr .nil w
  | (wk, wv) :: trs, σ, H, ρ, S, R, Q, he, hr, w, k =>
    ⟨F, ρ, S, _, he, hr, w, fun x S1 vx H1 e1 hr1 r1 h1 => ⟨F, ρ, S1, _, he.ev e1, hr1, h1, fun y S2 vy H2 e2 hr2 r2 h2 =>
      pairs_up ((he.ev e1).ev e2) hr2 h2 fun ps S3 qs H3 e3 hr3 r3 q => k _ S3 _ H3 ((e1.trans e2).trans e3) hr3 (.cons ⟨(r1.ev e2).ev e3, r2.ev e3⟩ r3) q⟩⟩
theorem keyPs_rel {K : PySem.W.Frag} {F : Sto} {H : Hp} {S : Sto} : ∀ {ps : List (T × T)} {qs : List (V × V)} {kvs : List (Key × T)}, RpP K F H S ps qs → keyPs ps = some kvs → ∃ vs : List (Key × V), qs = vs.map (fun kv => (kV kv.1, kv.2)) ∧ RpK K H (mix S F) kvs vs
  | _, _, _, .nil, e => by simp [keyPs] at e; subst e; exact ⟨[], rfl, .nil⟩
  | (x, y) :: ps, (vx, vy) :: qs, _, .cons ⟨a, b⟩ l, e => by
    simp only [keyPs] at e
    split at e
    · next k ks h1 h2 =>
      cases e
      obtain ⟨vs, h3, h4⟩ := keyPs_rel l h2
      refine ⟨(k, vy) :: vs, ?_, .cons ⟨rfl, b⟩ h4⟩
      have : vx = kV k := key_rel a h1
      rw [List.map_cons, ← h3, this]
    · cases e
theorem merge_rel {K : PySem.W.Frag} {H : Hp} {S : Sto} : ∀ {more : List (Key × T)} {vs : List (Key × V)} {acc : List (Key × T)} {av : List (Key × V)}, RpK K H S more vs → RpK K H S acc av → RpK K H S (mergeT acc more) (mergeK av vs)
  | _, _, _, _, .nil, h => h
  | (k, t) :: more, (k', v) :: vs, acc, av, .cons ⟨e, r⟩ l, h => by
    have e' : k = k' := e
    subst e'
    exact merge_rel (more := more) (vs := vs) l (put_rel r h)
theorem tx_disp {X : Cx} {pos : Pos} {keys : List (Option Expr)} {values : List Expr} {trs : List (WE × WE)} (h : TPs X pos keys values trs) (hall : keys.all (·.isSome) = true := by rfl) (hl : keys.length = values.length := by rfl) (h0 : keys ≠ [] := by exact fun z => by cases z)
    (h15 : keys.length ≤ 15 := by decide) : TX X (.Dict keys values pos) (wDisp trs) := by
  refine ⟨PE.imp (pe_disp h.pps hall hl h0 h15) fun σ H Q ⟨F, ρ, S, R, he, hr, w', k⟩ => fun p hp => ?_⟩
  -- the new dict stands in the frame while its pairs are made
  have fD : F p = none := hr.noneF hp
  have sD : S p = none := hr.none hp
  have ev0 : Ev X.K H (mix S F) (upd H p (.dK [])) (mix S (supd F p (.dK []))) := by rw [mix_fr sD]; exact ev_new hr.2 hp
  have hr0 : HW X.K (supd F p (.dK [])) (upd H p (.dK [])) S := by
    refine ⟨hr.1.fr sD, ?_⟩
    rw [mix_fr sD]
    exact hr_new hr.2 hp ⟨[], upd_same, .nil⟩
  refine pairs_up (F := supd F p (.dK [])) (he.ev ev0) hr0 w' fun ps S1 qs H1 e1 hr1 r1 ⟨kvs, h1, hz, q⟩ => ?_
  have sD1 : S1 p = none := by
    cases e : S1 p with
    | none => rfl
    | some c => have := hr1.1 p c e; rw [supd_same] at this; cases this
  have m1 : mix S1 (supd F p (.dK [])) p = some (.dK []) := by unfold mix; rw [supd_same]
  obtain ⟨us, hp1, l1⟩ := hr1.2 p _ m1
  cases l1
  obtain ⟨vs, h2, h3⟩ := keyPs_rel r1 h1
  have l3 : kvs.length = vs.length := RpK.length h3
  have em : mix (supd S1 p (.dK (mergeT [] kvs))) F = supd (mix S1 (supd F p (.dK []))) p (.dK (mergeT [] kvs)) := by
    rw [mix_supd fD, mix_fr sD1]
    funext b
    by_cases e : b = p
    · subst e; rw [supd_same, supd_same]
    · rw [supd_ne e, supd_ne e, supd_ne e]
  have evc : Ev X.K H1 (mix S1 (supd F p (.dK []))) (upd H1 p (.dK (mergeK [] vs))) (mix (supd S1 p (.dK (mergeT [] kvs))) F) := by
    rw [em]; exact ev_cell hr1.2 (by rw [m1]; rfl)
  refine ⟨hp1, vs, h2, by rw [← l3]; exact hz, ?_⟩
  refine k (.ref p) (supd S1 p (.dK (mergeT [] kvs))) _ _ ((ev0.trans e1).trans evc) ⟨hr1.1.unfr.supd fD, ?_⟩ (.ref p) (q p sD1)
  have := hr_cell (o := .dK (mergeK [] vs)) (c := .dK (mergeT [] kvs)) hr1.2 (by rw [m1]; rfl) ⟨_, upd_same, (merge_rel h3 .nil).ev (by rw [← em]; exact evc)⟩
  rw [em]
  exact this
end TL

set_option Elab.async false
set_option linter.all false
set_option maxRecDepth 100000
set_option maxHeartbeats 4000000
/-! TL7: methods, stores, what is walked, built-ins. -/
namespace TL
open PySem L2 PyProof.Rows
/-! ### methods -/
def MtX (X : Cx) (id : String) (o : T → List T → Sto → Post → Prop) : Prop :=
  ∃ r, MtR X id r ∧ ∀ F H S x v xs vs R Q, HW X.K F H S → RpF X.K F H S x v → RpLF X.K F H S xs vs → o x xs S R → (∀ t S' v' H', EvF X.K F H S H' S' → HW X.K F H' S' → RpF X.K F H' S' t v' → R t S' → Q v' H') → r v vs H Q
theorem tyv_of {K : PySem.W.Frag} {F : Sto} {H : Hp} {S : Sto} {t : T} {v : V} {n : String} (hr : HW K F H S) (r : RpF K F H S t v) (e : tyT S t = some n) (hn : n ∈ ["str", "int", "list", "dict"]) : tyV K n v H := by
  cases r with
  | non => cases e; simp at hn
  | bl b => cases e; simp at hn
  | int b => cases e; rfl
  | str b => cases e; rfl
  | lst h => cases e; exact .inl ⟨rfl, _, .inl (.inl h)⟩
  | tup h => cases e; simp at hn
  | arg h => cases e; exact .inl ⟨rfl, _, h.seq⟩
  | ref a =>
    simp only [tyT] at e
    split at e
    · next h => cases e; obtain ⟨_, us, h1, _⟩ := hr.cell h; exact .inl ⟨rfl, _, .inl (.inl h1)⟩
    · next h => cases e; obtain ⟨us, h1, _⟩ := hr.cell h; exact .inr (.inr (.inl ⟨rfl, .inl ⟨_, h1⟩⟩))
    · next h => cases e; obtain ⟨us, h1, _⟩ := hr.cell h; exact .inr (.inr (.inl ⟨rfl, .inr ⟨_, h1⟩⟩))
    · cases e
def wMeth (n : String) (o : T → List T → Sto → Post → Prop) (wo : WE) (ws : WA) : WE := fun ρ S R => wo ρ S fun x S1 => tyT S1 x = some n ∧ ws ρ S1 fun xs S2 => o x xs S2 R
section
variable {X : Cx} {o' e : Expr} {es : List Expr} {wo : WE} {ws : WA} {name : Str} {apos cpos : Pos} {n id : String} {o : T → List T → Sto → Post → Prop}
theorem tx_meth (pa : PlainAttrs n) (slot : Slot n name id) (hty : typeOf (.builtin id) = pure (.type "method_descriptor")) (hm : MtX X id o) (ho : TX X o' wo) (ha : TAs X (e :: es) ws) (hn : n ∈ ["str", "int", "list", "dict"] := by decide)
    (hbase : attributeBase o' name X.env (eval o' X.env) = eval o' X.env := by rfl)
    (hfew : ((backTo cpos (starEach (e :: es) X.env)).all (fun x => !x.1) && (backToKw cpos (keywordEach [] X.env)).all (fun x => x.1.isSome)
      && decide ((e :: es).length + ([] : List Keyword).length + (if ([] : List Keyword).isEmpty then 0 else 1) < 30)) = true := by rfl)
    (hline : (apos.endLine == cpos.line) = true := by rfl) (hs : starEach (e :: es) X.env = (false, eval e X.env) :: starEach es X.env := by rfl) (hplain : (backTo cpos (starEach es X.env)).any (·.1) = false := by rfl) :
    TX X (.Call (.Attribute o' name apos) (e :: es) [] cpos) (wMeth n o wo ws) := by
  obtain ⟨r, h1, h2⟩ := hm
  refine ⟨PE.imp (pe_bm pa slot hty h1 ho.pe ha.pa hbase hfew hline hs hplain) fun σ H Q ⟨F, ρ, S, R, he, hr, w', k⟩ => ?_⟩
  refine ⟨F, ρ, S, _, he, hr, w', fun x S1 v H1 e1 hr1 r1 ⟨ht, q1⟩ => ⟨tyv_of hr1 r1 ht hn, F, ρ, S1, _, he.ev e1, hr1, q1, fun xs S2 vs H2 e2 hr2 r2 q2 => ?_⟩⟩
  exact h2 F H2 S2 x v xs vs R Q hr2 (r1.ev e2) r2 q2 fun t S' v' H' e3 hr3 r3 q3 => k t S' v' H' ((e1.trans e2).trans e3) hr3 r3 q3
theorem tx_meth0 (pa : PlainAttrs n) (slot : Slot n name id) (hty : typeOf (.builtin id) = pure (.type "method_descriptor")) (hm : MtX X id o) (ho : TX X o' wo) (hn : n ∈ ["str", "int", "list", "dict"] := by decide)
    (hbase : attributeBase o' name X.env (eval o' X.env) = eval o' X.env := by rfl) (hline : (apos.endLine == cpos.line) = true := by rfl) : TX X (.Call (.Attribute o' name apos) [] [] cpos) (wMeth n o wo wNil) := by
  obtain ⟨r, h1, h2⟩ := hm
  refine ⟨PE.imp (pe_bm0 pa slot hty h1 ho.pe hbase hline) fun σ H Q ⟨F, ρ, S, R, he, hr, w', k⟩ => ?_⟩
  refine ⟨F, ρ, S, _, he, hr, w', fun x S1 v H1 e1 hr1 r1 ⟨ht, q1⟩ => ⟨tyv_of hr1 r1 ht hn, ?_⟩⟩
  exact h2 F H1 S1 x v [] [] R Q hr1 r1 .nil q1 fun t S' v' H' e3 hr3 r3 q3 => k t S' v' H' (e1.trans e3) hr3 r3 q3
def oAppend : T → List T → Sto → Post → Prop := fun x xs S R => ∃ a y ts, x = .ref a ∧ xs = [y] ∧ S a = some (.lst ts) ∧ ts.length < sizeLine ∧ R .non (supd S a (.lst (ts ++ [y])))
theorem mx_append : MtX X "list.append" oAppend := ⟨_, mt_append, fun F H S x v xs vs R Q hr rx rxs ⟨a, y, ts, e1, e2, h, hz, q⟩ k => by
  subst e1; subst e2
  cases rx
  cases rxs with
  | @cons _ w _ _ ry rt =>
    cases rt
    obtain ⟨z, us, h1, l⟩ := hr.cell h
    have ev : EvF X.K F H S (upd H a (.lst (us ++ [w]))) (supd S a (.lst (ts ++ [y]))) := evf_cell hr (by rw [h]; rfl)
    exact ⟨a, us, _, rfl, rfl, h1, by rw [← l.length]; exact hz, k _ _ _ _ ev (hw_cell hr (by rw [h]; rfl) ⟨by rw [List.length_append, List.length_singleton]; omega, _, upd_same, (l.append (.cons ry .nil)).ev ev⟩) .non q⟩⟩
def oExtend : T → List T → Sto → Post → Prop := fun x xs S R => ∃ a y ts zs, x = .ref a ∧ xs = [y] ∧ S a = some (.lst ts) ∧ asL S y = some zs ∧ ts.length + zs.length ≤ sizeLine ∧ R .non (supd S a (.lst (ts ++ zs)))
theorem mx_extend : MtX X "list.extend" oExtend := ⟨_, mt_extend, fun F H S x v xs vs R Q hr rx rxs ⟨a, y, ts, zs, e1, e2, h, hy, hz, q⟩ k => by
  subst e1; subst e2
  cases rx
  cases rxs with
  | cons ry rt =>
    cases rt
    obtain ⟨z, us, h1, l⟩ := hr.cell h
    obtain ⟨b, ws, rfl, h2, l2, z2⟩ := asL_lst hr ry hy
    have ev : EvF X.K F H S (upd H a (.lst (us ++ ws))) (supd S a (.lst (ts ++ zs))) := evf_cell hr (by rw [h]; rfl)
    exact ⟨a, b, us, ws, rfl, rfl, h1, h2, by rw [← l.length, ← l2.length]; exact hz, k _ _ _ _ ev (hw_cell hr (by rw [h]; rfl) ⟨by rw [List.length_append]; exact hz, _, upd_same, (l.append l2).ev ev⟩) .non q⟩⟩
def oPop0 : T → List T → Sto → Post → Prop := fun x xs S R => ∃ a t ts, x = .ref a ∧ xs = [] ∧ S a = some (.lst ts) ∧ ts[ts.length - 1]? = some t ∧ R t (supd S a (.lst ts.dropLast))
theorem mx_pop0 : MtX X "list.pop" oPop0 := ⟨_, mt_pop, fun F H S x v xs vs R Q hr rx rxs ⟨a, t, ts, e1, e2, h, ht, q⟩ k => by
  subst e1; subst e2
  cases rx
  cases rxs
  obtain ⟨z, us, h1, l⟩ := hr.cell h
  obtain ⟨u, hu, ru⟩ := l.get' ht
  have ev : EvF X.K F H S (upd H a (.lst us.dropLast)) (supd S a (.lst ts.dropLast)) := evf_cell hr (by rw [h]; rfl)
  refine ⟨a, us, u, rfl, rfl, h1, by rw [← l.length]; exact hu, k _ _ _ _ ev (hw_cell hr (by rw [h]; rfl) ⟨by rw [List.length_dropLast]; omega, _, upd_same, RpL.ev ev ?_⟩) (ru.ev ev) q⟩
  rw [List.dropLast_eq_take, List.dropLast_eq_take, l.length]
  exact l.take _⟩
def oPopAt : T → List T → Sto → Post → Prop := fun x xs S R => ∃ a i j t ts, x = .ref a ∧ xs = [.int i] ∧ S a = some (.lst ts) ∧ ixN ts.length i = some j ∧ ts[j]? = some t ∧ R t (supd S a (.lst (ts.eraseIdx j)))
theorem mx_popAt : MtX X "list.pop" oPopAt := ⟨_, mt_popAt, fun F H S x v xs vs R Q hr rx rxs ⟨a, i, j, t, ts, e1, e2, h, hj, ht, q⟩ k => by
  subst e1; subst e2
  cases rx
  cases rxs with
  | cons ri rt =>
    cases rt
    cases ri
    obtain ⟨z, us, h1, l⟩ := hr.cell h
    obtain ⟨u, hu, ru⟩ := l.get' ht
    obtain ⟨s1, s2, s3, s4⟩ := ixN_seq hj
    have ev : EvF X.K F H S (upd H a (.lst (us.eraseIdx j))) (supd S a (.lst (ts.eraseIdx j))) := evf_cell hr (by rw [h]; rfl)
    have hsl := sizeLine_eq
    refine ⟨a, us, i, j, u, rfl, rfl, h1, by omega, by omega, by rw [← l.length]; exact s1, hu, k _ _ _ _ ev (hw_cell hr (by rw [h]; rfl) ⟨Nat.le_trans (List.length_eraseIdx_le ..) z, _, upd_same, (l.eraseIdx j).ev ev⟩) (ru.ev ev) q⟩⟩
/-- s.split(sep) -/
def oSplit : T → List T → Sto → Post → Prop := fun x xs S R => ∃ a b, x = .str a ∧ xs = [.str b] ∧ (b.length == 0) = false ∧ a.length + 2 ≤ sizeLine ∧ (Txt.split a b).length ≤ sizeLine ∧ R (.lst ((Txt.split a b).map T.str)) S
theorem mx_split : MtX X "str.split" oSplit := ⟨_, mt_split, fun F H S x v xs vs R Q hr rx rxs ⟨a, b, e1, e2, h1, h2, h3, q⟩ k => by
  subst e1; subst e2
  cases rx
  cases rxs with
  | cons ry rt =>
    cases rt
    cases ry
    exact ⟨a, b, rfl, rfl, h1, h2, fun p hp => k _ S _ _ (Ev.laid hp) (hr.laid hp) (.lst upd_same (hr.2.none hp) (by rw [List.length_map]; exact h3) (rpl_strs _)) q⟩⟩
end
/-! ### stores -/
def sSetIx (wo wi wv : WE) : WS := fun E ρ S => wv ρ S fun t S1 => wo ρ S1 fun x S2 => wi ρ S2 fun y S3 => ∃ a i j ts, x = .ref a ∧ y = .int i ∧ S3 a = some (.lst ts) ∧ ixN ts.length i = some j ∧ E.nx ρ (supd S3 a (.lst (ts.set j t)))
theorem ts_setIx {X : Cx} {o i e : Expr} {wo wi wv : WE} {pos pos' : Pos} (ho : TX X o wo) (hi : TX X i wi) (hv : TX X e wv)
    (ha : ∀ v, assign (.Subscript o i pos') X.env v = (do
      let ov ← holding [v] (eval o X.env)
      let iv ← holding [v, ov] (eval i X.env)
      standAt pos'
      holding [v, ov, iv] (setItem ov iv v)
      release [v, ov, iv] []) := by intro _; rfl) (hs : swapsWithSole [.Subscript o i pos'] e pos.line X.env = pure false := by rfl) (hw : swappedStores [.Subscript o i pos'] e X.env = pure none := by rfl)
    (h1 : (assignEach [.Subscript o i pos'] X.env).map (·.2) = [assign (.Subscript o i pos') X.env] := by rfl) : TSt X (.Assign [.Subscript o i pos'] e pos) (sSetIx wo wi wv) := by
  refine ⟨PS.imp (ps_asg hv.pe (pg_sub ho.pe hi.pe set_list ha) hs hw h1) fun D σ H ⟨F, ρ, S, E, he, hr, w', l⟩ => ?_⟩
  refine ⟨F, ρ, S, _, he, hr, w', fun t S1 v H1 e1 hr1 r1 q1 => ⟨F, ρ, S1, _, he.ev e1, hr1, q1, fun x S2 vx H2 e2 hr2 r2 q2 => ⟨F, ρ, S2, _, (he.ev e1).ev e2, hr2, q2, fun y S3 vy H3 e3 hr3 r3 ⟨a, k, j, ts, e4, e5, h, hj, q⟩ => ?_⟩⟩⟩
  subst e4; subst e5
  cases r2; cases r3
  obtain ⟨z, us, h2, lu⟩ := hr3.cell h
  have ev : EvF X.K F H3 S3 (upd H3 a (.lst (us.set j v))) (supd S3 a (.lst (ts.set j t))) := evf_cell hr3 (by rw [h]; rfl)
  have ee := (e1.trans e2).trans e3
  exact ⟨a, us, k, j, rfl, rfl, h2, by rw [← lu.length]; exact hj, l.nx ρ _ σ _ (ee.trans ev) (hw_cell hr3 (by rw [h]; rfl) ⟨by rw [List.length_set]; exact z, _, upd_same, (RpL.set ((r1.ev e2).ev e3) j lu).ev ev⟩) ((he.ev ee).ev ev) q⟩
/-- a, b = e1, e2, two locals -/
def sPar (i j : Nat) (wa wb : WE) : WS := fun E ρ S => wa ρ S fun x S1 => wb ρ S1 fun y S2 => E.nx ((ρ.set i (some x)).set j (some y)) S2
theorem ts_par {X : Cx} {i j : Nat} {x y : Str} {a b : Expr} {wa wb : WE} {px py pt pos : Pos} {kt k2 pt2} (hc : X.calm = true) (hN : X.N.Nodup) (hi : X.N[i]? = some x) (hj : X.N[j]? = some y) (hij : i ≠ j)
    (hx : X.env.scope.names.lookup x = some .local) (hy : X.env.scope.names.lookup y = some .local) (ha : TX X a wa) (hb : TX X b wb)
    (hst : starEach [a, b] X.env = (false, eval a X.env) :: starEach [b] X.env := by rfl) (hst2 : starEach [b] X.env = (false, eval b X.env) :: starEach [] X.env := by rfl)
    (hw : swappedStores [.Tuple [.Name x px, .Name y py] kt pt] (.Tuple [a, b] k2 pt2) X.env = pure (some [x, y]) := by rfl)
    (hs : swapsWithSole [.Tuple [.Name x px, .Name y py] kt pt] (.Tuple [a, b] k2 pt2) pos.line X.env = pure false := by rfl) :
    TSt X (.Assign [.Tuple [.Name x px, .Name y py] kt pt] (.Tuple [a, b] k2 pt2) pos) (sPar i j wa wb) :=
  ⟨PS.imp (ps_par hc hN hi hj hij hx hy (pa_cons ha.pe (pa_cons hb.pe pa_nil hst2) hst) hw hs) fun D σ H ⟨F, ρ, S, E, he, hr, w', l⟩ =>
    ⟨F, ρ, S, _, he, hr, w', fun t S1 v H1 e1 hr1 r1 q1 => ⟨F, ρ, S1, _, he.ev e1, hr1, q1, fun u S2 vu H2 e2 hr2 r2 q2 =>
      ⟨v, vu, rfl, l.nx _ S2 _ H2 (e1.trans e2) hr2 ((((he.ev e1).ev e2).set (r1.ev e2) i).set r2 j) q2⟩⟩⟩⟩
def sPar3 (i j m : Nat) (wa wb wc : WE) : WS := fun E ρ S => wa ρ S fun x S1 => wb ρ S1 fun y S2 => wc ρ S2 fun z S3 => E.nx (((ρ.set i (some x)).set j (some y)).set m (some z)) S3
theorem ts_par3 {X : Cx} {i j m : Nat} {x y z : Str} {a b c : Expr} {wa wb wc : WE} {px py pz pt pos : Pos} {kt k2 pt2} (hc : X.calm = true) (hN : X.N.Nodup) (hi : X.N[i]? = some x) (hj : X.N[j]? = some y) (hm : X.N[m]? = some z) (hij : i ≠ j) (him : i ≠ m) (hjm : j ≠ m)
    (hx : X.env.scope.names.lookup x = some .local) (hy : X.env.scope.names.lookup y = some .local) (hz : X.env.scope.names.lookup z = some .local) (ha : TX X a wa) (hb : TX X b wb) (hcc : TX X c wc)
    (hst : starEach [a, b, c] X.env = (false, eval a X.env) :: starEach [b, c] X.env := by rfl) (hst2 : starEach [b, c] X.env = (false, eval b X.env) :: starEach [c] X.env := by rfl) (hst3 : starEach [c] X.env = (false, eval c X.env) :: starEach [] X.env := by rfl)
    (hw : swappedStores [.Tuple [.Name x px, .Name y py, .Name z pz] kt pt] (.Tuple [a, b, c] k2 pt2) X.env = pure (some [x, y, z]) := by rfl)
    (hs : swapsWithSole [.Tuple [.Name x px, .Name y py, .Name z pz] kt pt] (.Tuple [a, b, c] k2 pt2) pos.line X.env = pure false := by rfl) :
    TSt X (.Assign [.Tuple [.Name x px, .Name y py, .Name z pz] kt pt] (.Tuple [a, b, c] k2 pt2) pos) (sPar3 i j m wa wb wc) :=
  ⟨PS.imp (ps_par3 hc hN hi hj hm hij him hjm hx hy hz (pa_cons ha.pe (pa_cons hb.pe (pa_cons hcc.pe pa_nil hst3) hst2) hst) hw hs) fun D σ H ⟨F, ρ, S, E, he, hr, w', l⟩ =>
    ⟨F, ρ, S, _, he, hr, w', fun t S1 v H1 e1 hr1 r1 q1 => ⟨F, ρ, S1, _, he.ev e1, hr1, q1, fun u S2 vu H2 e2 hr2 r2 q2 => ⟨F, ρ, S2, _, (he.ev e1).ev e2, hr2, q2, fun u3 S3 v3 H3 e3 hr3 r3 q3 =>
      ⟨v, vu, v3, rfl, l.nx _ S3 _ H3 ((e1.trans e2).trans e3) hr3 ((((((he.ev e1).ev e2).ev e3).set ((r1.ev e2).ev e3) i).set (r2.ev e3) j).set r3 m) q3⟩⟩⟩⟩⟩
/-- x += e, an int -/
def sAugI (i : Nat) (g : Int → Int → Int) (w : WE) : WS := fun E ρ S => ∃ n, ρ[i]? = some (some (.int n)) ∧ w ρ S fun t S1 => ∃ m, t = .int m ∧ E.nx (ρ.set i (some (.int (g n m)))) S1
theorem ts_augI {X : Cx} {i : Nat} {x : Str} {e : Expr} {w : WE} {op : Operator} {g : Int → Int → Int} {pos pos' : Pos} (hN : X.N.Nodup) (hi : X.N[i]? = some x) (hx : Loc X.env.scope x) (h : TX X e w) (ho : PIp X op (ipI g)) (hf : X.fn x = true ∨ X.env.scope.names.lookup x = some .local := by first | exact .inl rfl | exact .inr rfl | assumption) :
    TSt X (.AugAssign (.Name x pos') op e pos) (sAugI i g w) := by
  refine ⟨PS.imp (ps_aug hN hi hx h.pe ho hf) fun D σ H ⟨F, ρ, S, E, he, hr, ⟨n, hn, w'⟩, l⟩ => ?_⟩
  obtain ⟨v, hv, rv⟩ := EnvR.get he hn
  cases rv
  exact ⟨_, hv, F, ρ, S, _, he, hr, w', fun t S1 v H1 e1 hr1 r1 ⟨m, e2, q⟩ => by
    subst e2
    cases r1
    exact ⟨n, m, rfl, rfl, l.nx _ S1 _ H1 e1 hr1 ((he.ev e1).set (.int _) i) q⟩⟩
/-! ### what is walked -/
def itemsT : T → Option (List T)
  | .tup ts => some ts
  | .lst ts => some ts
  | .arg ns => some (ns.map T.int)
  | .str z => some (z.cps.toList.map fun c => T.str ⟨#[c]⟩)
  | _ => none
def wItems (w : WE) : WA := fun ρ S R => w ρ S fun t S1 => ∃ ts, itemsT t = some ts ∧ R ts S1
section
variable {X : Cx} {tg : Expr}
/-- any of a list, a tuple, a text -/
theorem pi_any {l : Expr} {tl : TE} (hl : PE X l tl) : PI X tg l (fun σ H R => tl σ H fun x H1 => (∃ a, x = .ref a ∧ (∃ xs, SqL X.K H1 a xs) ∧ R (Itl X.K a) H1) ∨ (∃ a, x = .ref a ∧ (∃ xs, SqT X.K H1 a xs) ∧ R (Itt X.K a) H1) ∨ ∃ z, x = .str z ∧ R (Its z) H1) := by
  refine ⟨fun pins s σ H R I h => ?_⟩
  refine thn (hl.run pins s σ H _ I h) fun v s1 ⟨x, H1, I1, r1, q1⟩ => ?_
  rcases q1 with ⟨a, e, ⟨xs, hq⟩, q⟩ | ⟨a, e, ⟨xs, hq⟩, q⟩ | ⟨z, e, q⟩
  · subst e
    cases r1
    obtain ⟨its, rv, p, hz⟩ := I1.list hq
    refine wpAny_pyIter_list p.isList ?_
    refine ⟨s1.heap.objs.size, [s1.heap.objs.size], _, _, H1, rfl, I1.kept (t' := s1.toks) fun b o e => Heap.get?_push_of_some _ e, turn_list a _, ⟨_, Heap.get?_push_size _ rfl, rfl, rfl⟩, fun b hb => ?_, q⟩
    have e : b = s1.heap.objs.size := by simpa using hb
    subst e
    exact I1.fpOk (Nat.le_refl _) (I1.hok.fresh (Nat.le_refl _))
  · subst e
    cases r1
    obtain ⟨its, rv, p, hz⟩ := I1.tuple hq
    refine wpAny_pyIter_tuple (show s1.heap.IsTuple a its.toArray from p) ?_
    refine ⟨s1.heap.objs.size, [s1.heap.objs.size], _, _, H1, rfl, I1.kept (t' := s1.toks) fun b o e => Heap.get?_push_of_some _ e, turn_tuple a _, ⟨_, Heap.get?_push_size _ rfl, rfl, rfl⟩, fun b hb => ?_, q⟩
    have e : b = s1.heap.objs.size := by simpa using hb
    subst e
    exact I1.fpOk (Nat.le_refl _) (I1.hok.fresh (Nat.le_refl _))
  · subst e
    obtain ⟨t, rfl⟩ := r1
    cases ha : z.cps.all (· < 128)
    · exact wpAny_pyIter_wide ha (pi_one (tk := s1.toks) I1 _ (turn_str _ z t "str_iterator" (.inr rfl)) ⟨_, Heap.get?_push_size _ rfl, rfl, rfl⟩ q)
    · exact wpAny_pyIter_ascii ha (pi_one (tk := s1.toks) I1 _ (turn_str _ z t "str_ascii_iterator" (.inl rfl)) ⟨_, Heap.get?_push_size _ rfl, rfl, rfl⟩ q)
/-- a walk that leaves the heap as it is -/
theorem goes_of {K : PySem.W.Frag} {F : Sto} {J : It} {ts : List T} {us : List V} {H : Hp} {S : Sto} {G : Hp → Prop} (w : Walk J us.length G (YAt us)) (l : RpLF K F H S ts us) (g : ∀ F1 H1 S1, Ev K H (mix S F) H1 (mix S1 F1) → G H1) : Goes K F J ts H S := by
  refine ⟨fun F1 H1 S1 e i hi => w.goes i H1 (by rw [← l.length]; exact hi) (g F1 H1 S1 e), fun F1 H1 S1 e => by rw [l.length]; exact w.stops H1 (g F1 H1 S1 e), fun F1 H1 S1 e hr i x H2 hi y => ?_⟩
  obtain ⟨e2, hx⟩ := w.yields i H1 x H2 (by rw [← l.length]; exact hi) (g F1 H1 S1 e) y
  subst e2
  obtain ⟨t, ht, r⟩ := l.get hx
  exact ⟨t, ht, Ev.refl, hr, r.ev e⟩
theorem walk_strL {z : Str} : Walk (Its z) (z.cps.toList.map fun c => V.str ⟨#[c]⟩).length (fun _ => True) (YAt (z.cps.toList.map fun c => V.str ⟨#[c]⟩)) := by
  have e : (z.cps.toList.map fun c => V.str ⟨#[c]⟩).length = z.cps.size := by simp
  rw [e]
  refine (walk_str (z := z)).mono (fun _ h => h) fun i H x H' hi _ ⟨e, c, h1, h2⟩ => ⟨e, ?_⟩
  subst h2
  rw [List.getElem?_map]
  have : z.cps.toList[i]? = some c := by simpa using h1
  rw [this]
  rfl
theorem rpl_signs {K : PySem.W.Frag} {H : Hp} {S : Sto} : ∀ (l : List Nat), RpL K H S (l.map fun c => T.str ⟨#[c]⟩) (l.map fun c => V.str ⟨#[c]⟩)
  | [] => .nil
  | c :: l => .cons (.str _) (rpl_signs l)
theorem tit_seq {e : Expr} {w : WE} (h : TX X e w) : TIt X tg e (wItems w) := by
  refine ⟨PI.imp (pi_any h.pe) fun σ H R' ⟨F, ρ, S, R, he, hr, w', k⟩ => ?_⟩
  refine ⟨F, ρ, S, _, he, hr, w', fun t S1 v H1 e1 hr1 r1 ⟨ts, h1, q⟩ => ?_⟩
  cases r1 with
  | tup a b c =>
    cases h1
    exact .inr (.inl ⟨_, rfl, ⟨_, .inl (.inl a)⟩, k _ S1 H1 _ e1 hr1 (goes_of walk_tup c fun F1 H2 S2 e => .inl (.inl (e.tup _ _ a))) q⟩)
  | lst a n b c =>
    cases h1
    exact .inl ⟨_, rfl, ⟨_, .inl (.inl a)⟩, k _ S1 H1 _ e1 hr1 (goes_of walk_list c fun F1 H2 S2 e => .inl (.inl (e.lst _ _ n a).1)) q⟩
  | arg a b =>
    cases h1
    exact .inl ⟨_, rfl, ⟨_, a.seq⟩, k _ S1 H1 _ e1 hr1 (goes_of walk_list (rpl_ints _) fun F1 H2 S2 e => (ArgOk.ev e a).seq) q⟩
  | str z =>
    cases h1
    exact .inr (.inr ⟨z, rfl, k _ S1 H1 _ e1 hr1 (goes_of walk_strL (rpl_signs _) fun _ _ _ _ => trivial) q⟩)
  | _ => simp [itemsT] at h1
/-- the ints lo, lo + 1, .. -/
def rngT (lo : Int) (n : Nat) : List T := (List.range n).map fun (i : Nat) => T.int (lo + i)
theorem walk_rng {lo : Int} {n : Nat} : Walk (Itr lo n) ((List.range n).map fun (i : Nat) => V.int (lo + i)).length (fun _ => True) (YAt ((List.range n).map fun (i : Nat) => V.int (lo + i))) := by
  have e : ((List.range n).map fun (i : Nat) => V.int (lo + i)).length = n := by simp
  rw [e]
  refine (walk_range (lo := lo) (n := n)).mono (fun _ h => h) fun i H x H' hi _ ⟨e, h2⟩ => ⟨e, ?_⟩
  subst h2
  rw [List.getElem?_map, List.getElem?_range hi]
  rfl
theorem rpl_rng {K : PySem.W.Frag} {H : Hp} {S : Sto} {lo : Int} {n : Nat} : RpL K H S (rngT lo n) ((List.range n).map fun (i : Nat) => V.int (lo + i)) := by
  unfold rngT
  have : ∀ l : List Nat, RpL K H S (l.map fun (i : Nat) => T.int (lo + i)) (l.map fun (i : Nat) => V.int (lo + i)) := by
    intro l
    induction l with
    | nil => exact .nil
    | cons a l ih => exact .cons (.int _) ih
  exact this _
def wRng1 (w : WE) : WA := fun ρ S R => w ρ S fun t S1 => ∃ j : Int, t = .int j ∧ -(2 ^ 62) ≤ j ∧ j < 2 ^ 62 ∧ R (rngT 0 j.toNat) S1
theorem tit_rng1 {a : Expr} {w : WE} {p pos : Pos} (hg : Gl X "range") (hm : X.mg "range" = none) (h : TX X a w) (hs : starEach [a] X.env = [(false, eval a X.env)] := by rfl) : TIt X tg (.Call (.Name "range" p) [a] [] pos) (wRng1 w) := by
  refine ⟨PI.imp (pi_range1 hg hm (pa_cons h.pe pa_nil hs) hs) fun σ H R' ⟨F, ρ, S, R, he, hr, w', k⟩ => ?_⟩
  refine ⟨F, ρ, S, _, he, hr, w', fun t S1 v H1 e1 hr1 r1 ⟨j, e2, h1, h2, q⟩ => ?_⟩
  subst e2
  cases r1
  exact ⟨j, rfl, h1, h2, k _ S1 H1 _ e1 hr1 (goes_of walk_rng rpl_rng fun _ _ _ _ => trivial) q⟩
def wRng2 (w w2 : WE) : WA := fun ρ S R => w ρ S fun t S1 => w2 ρ S1 fun t2 S2 => ∃ i j : Int, t = .int i ∧ t2 = .int j ∧ (-(2 ^ 62) ≤ i ∧ i < 2 ^ 62 ∧ -(2 ^ 62) ≤ j ∧ j < 2 ^ 62) ∧ R (rngT i (j - i).toNat) S2
theorem tit_rng2 {a b : Expr} {w w2 : WE} {p pos : Pos} (hg : Gl X "range") (hm : X.mg "range" = none) (h : TX X a w) (h' : TX X b w2) (hs : starEach [a, b] X.env = [(false, eval a X.env), (false, eval b X.env)] := by rfl) (hs2 : starEach [b] X.env = [(false, eval b X.env)] := by rfl) :
    TIt X tg (.Call (.Name "range" p) [a, b] [] pos) (wRng2 w w2) := by
  refine ⟨PI.imp (pi_range2 hg hm (pa_cons h.pe (pa_cons h'.pe pa_nil hs2) (by rw [hs, hs2])) hs hs2) fun σ H R' ⟨F, ρ, S, R, he, hr, w', k⟩ => ?_⟩
  refine ⟨F, ρ, S, _, he, hr, w', fun t S1 v H1 e1 hr1 r1 q1 => ⟨F, ρ, S1, _, he.ev e1, hr1, q1, fun t2 S2 v2 H2 e2 hr2 r2 ⟨i, j, e3, e4, h1, q⟩ => ?_⟩⟩
  subst e3; subst e4
  cases r1; cases r2
  exact ⟨i, j, rfl, h1, k _ S2 H2 _ (e1.trans e2) hr2 (goes_of walk_rng rpl_rng fun _ _ _ _ => trivial) q⟩
/-! ### built-ins -/
def oTuple : List T → Sto → Post → Prop := fun xs S R => ∃ x ts, xs = [x] ∧ seqT S x = some ts ∧ ts.length ≤ sizeLine ∧ R (.tup ts) S
theorem cx_tuple : CallX X (.type "tuple") oTuple := ⟨_, call_tuple_of, fun F H S xs vs R Q hr rx ⟨x, ts, e, h, hz, q⟩ k => by
  subst e
  cases rx with
  | cons r rr =>
    cases rr
    cases r with
    | tup a b c => cases h; exact ⟨_, _, rfl, .inr ⟨.inl (.inl a), k _ S _ H Ev.refl hr (.tup a b c) q⟩⟩
    | lst a n b c => cases h; exact ⟨_, _, rfl, .inl ⟨.inl (.inl a), fun p hp => k _ S _ _ (Ev.laid hp) (hr.laid hp) (.tup upd_same b (c.ev (Ev.laid hp))) q⟩⟩
    | arg a b => cases h; exact ⟨_, _, rfl, .inl ⟨a.seq, fun p hp => k _ S _ _ (Ev.laid hp) (hr.laid hp) (.tup upd_same hz (rpl_ints _)) q⟩⟩
    | ref a =>
      simp only [seqT] at h
      split at h
      · next hc =>
        cases h
        obtain ⟨z, us, h1, l⟩ := hr.cell hc
        exact ⟨_, _, rfl, .inl ⟨.inl (.inl h1), fun p hp => k _ S _ _ (Ev.laid hp) (hr.laid hp) (.tup upd_same z (l.ev (Ev.laid hp))) q⟩⟩
      · cases h
    | _ => simp [seqT] at h⟩
def oList : List T → Sto → Post → Prop := fun xs S R => ∃ x ts, xs = [x] ∧ seqT S x = some ts ∧ ts.length ≤ sizeLine ∧ R (.lst ts) S
theorem list_of {F : Sto} {H : Hp} {S : Sto} {xs : List T} {vs : List V} {Q : VK} {x : T} {ts : List T} (hr : HW X.K F H S) (rx : RpLF X.K F H S xs vs) (e : xs = [x]) (h : seqT S x = some ts) (k : ∀ us p, RpLF X.K F H S ts us → H p = none → Q (.ref p) (upd H p (.lst us))) :
    ∃ p ys, vs = [.ref p] ∧ (SqL X.K H p ys ∨ SqT X.K H p ys) ∧ ∀ l, H l = none → Q (.ref l) (upd H l (.lst ys)) := by
  subst e
  cases rx with
  | cons r rr =>
    cases rr
    obtain ⟨a, us, rfl, hs, l⟩ := seq_of hr r h
    exact ⟨a, us, rfl, hs, fun p hp => k us p l hp⟩
theorem cx_list : CallX X (.type "list") oList := ⟨_, call_list_of, fun F H S xs vs R Q hr rx ⟨x, ts, e, h, hz, q⟩ k =>
  list_of hr rx e h fun us p l hp => k _ S _ _ (Ev.laid hp) (hr.laid hp) (.lst upd_same (hr.2.none hp) hz (l.ev (Ev.laid hp))) q⟩
/-- the new list a cell -/
def oListC : List T → Sto → Post → Prop := fun xs S R => ∃ x ts, xs = [x] ∧ seqT S x = some ts ∧ ts.length ≤ sizeLine ∧ ∀ a, S a = none → R (.ref a) (supd S a (.lst ts))
theorem cx_listC : CallX X (.type "list") oListC := ⟨_, call_list_of, fun F H S xs vs R Q hr rx ⟨x, ts, e, h, hz, q⟩ k =>
  list_of hr rx e h fun us p l hp => k (.ref p) (supd S p (.lst ts)) _ _ (evf_new hr hp) (hw_new hr hp ⟨hz, us, upd_same, l.ev (evf_new hr hp)⟩) (.ref p) (q p (hr.none hp))⟩
def oInt1 : List T → Sto → Post → Prop := fun xs S R => (∃ i, xs = [.int i] ∧ R (.int i) S) ∨ ∃ b, xs = [.bl b] ∧ R (.int (if b then 1 else 0)) S
theorem cx_int : CallX X (.type "int") oInt1 := ⟨_, call_int1, fun F H S xs vs R Q hr rx h k => by
  rcases h with ⟨i, e, q⟩ | ⟨b, e, q⟩ <;> subst e
  · cases rx with
    | cons r rr => cases rr; cases r; exact .inl ⟨i, rfl, k _ S _ H Ev.refl hr (.int _) q⟩
  · cases rx with
    | cons r rr => cases rr; cases r; exact .inr ⟨b, rfl, k _ S _ H Ev.refl hr (.int _) q⟩⟩
def oMax2 : List T → Sto → Post → Prop := fun xs S R => ∃ i j, xs = [.int i, .int j] ∧ R (.int (if j > i then j else i)) S
theorem cx_max2 (hc : X.calm = true) : CallX X (.builtin "max") oMax2 := ⟨_, call_max2 hc, fun F H S xs vs R Q hr rx ⟨i, j, e, q⟩ k => by
  subst e
  cases rx with
  | cons r rr => cases rr with
    | cons r2 rr2 => cases rr2; cases r; cases r2; exact ⟨i, j, rfl, k _ S _ H Ev.refl hr (.int _) q⟩⟩
def oMin2 : List T → Sto → Post → Prop := fun xs S R => ∃ i j, xs = [.int i, .int j] ∧ R (.int (if j < i then j else i)) S
theorem cx_min2 (hc : X.calm = true) : CallX X (.builtin "min") oMin2 := ⟨_, call_min2 hc, fun F H S xs vs R Q hr rx ⟨i, j, e, q⟩ k => by
  subst e
  cases rx with
  | cons r rr => cases rr with
    | cons r2 rr2 => cases rr2; cases r; cases r2; exact ⟨i, j, rfl, k _ S _ H Ev.refl hr (.int _) q⟩⟩
theorem seqL_of {K : PySem.W.Frag} {F : Sto} {H : Hp} {S : Sto} {t : T} {v : V} {ts : List T} (hr : HW K F H S) (r : RpF K F H S t v) (e : asL S t = some ts) : ∃ a us, v = .ref a ∧ SqL K H a us ∧ RpLF K F H S ts us := by
  obtain ⟨a, us, h1, h2, h3, _⟩ := asL_lst hr r e
  exact ⟨a, us, h1, .inl (.inl h2), h3⟩
def oSum : List T → Sto → Post → Prop := fun xs S R => ∃ (x : T) (ns : List Int), xs = [x] ∧ asL S x = some (ns.map T.int) ∧ R (.int ns.sum) S
theorem cx_sum (hc : X.calm = true) : CallX X (.builtin "sum") oSum := ⟨_, cr_sum hc, fun F H S xs vs R Q hr rx ⟨x, ns, e, h, q⟩ k => by
  subst e
  cases rx with
  | cons r rr =>
    cases rr
    obtain ⟨a, us, rfl, hs, l⟩ := seqL_of hr r h
    rw [l.ints] at hs
    exact ⟨a, ns, rfl, hs, k _ S _ H Ev.refl hr (.int _) q⟩⟩
def oAll : List T → Sto → Post → Prop := fun xs S R => ∃ (x : T) (bs : List Bool), xs = [x] ∧ asL S x = some (bs.map T.bl) ∧ R (.bl (bs.all id)) S
theorem cx_all (hc : X.calm = true) : CallX X (.builtin "all") oAll := ⟨_, cr_all hc, fun F H S xs vs R Q hr rx ⟨x, ns, e, h, q⟩ k => by
  subst e
  cases rx with
  | cons r rr =>
    cases rr
    obtain ⟨a, us, rfl, hs, l⟩ := seqL_of hr r h
    rw [l.bls] at hs
    exact ⟨a, ns, rfl, hs, k _ S _ H Ev.refl hr (.bl _) q⟩⟩
/-- sorted of texts (fewer than 64); of a dict with text keys -/
def oSortS : List T → Sto → Post → Prop := fun xs S R => ∃ (x : T) (zs : List Str), xs = [x] ∧ asL S x = some (zs.map T.str) ∧ zs.length < 64 ∧ ∀ ys : List Str, ys.Perm zs → sortedS ys = true → R (.lst (ys.map T.str)) S
theorem cx_sortS : CallX X (.builtin "sorted") oSortS := ⟨_, cr_sortedS, fun F H S xs vs R Q hr rx ⟨x, zs, e, h, hz, q⟩ k => by
  subst e
  cases rx with
  | cons r rr =>
    cases rr
    obtain ⟨a, us, rfl, hs, l⟩ := seqL_of hr r h
    rw [l.strs] at hs
    have hsl := sizeLine_eq
    exact ⟨a, zs, rfl, hs, hz, fun ys p hp hso hn => k _ S _ _ (Ev.laid hn) (hr.laid hn) (.lst upd_same (hr.2.none hn) (by rw [List.length_map, hp.length_eq]; omega) (rpl_strs _)) (q ys hp hso)⟩⟩
def oSortD : List T → Sto → Post → Prop := fun xs S R => ∃ (a : Addr) (kvs : List (Key × T)) (ks : List Str), xs = [.ref a] ∧ S a = some (.dK kvs) ∧ kvs.map (·.1) = ks.map Sum.inr ∧ ks.length < 64 ∧ ∀ ys : List Str, ys.Perm ks → sortedS ys = true → R (.lst (ys.map T.str)) S
theorem RpK.keys {K : PySem.W.Frag} {H : Hp} {S : Sto} {κ : Type} : ∀ {ts : List (κ × T)} {vs : List (κ × V)}, RpK K H S ts vs → ts.map (·.1) = vs.map (·.1)
  | _, _, .nil => rfl
  | (a, _) :: _, (b, _) :: _, .cons ⟨e, _⟩ l => by
    have e' : a = b := e
    rw [List.map_cons, List.map_cons, RpK.keys l, e']
theorem cx_sortD (hc : X.calm = true) : CallX X (.builtin "sorted") oSortD := ⟨_, call_sortedD hc, fun F H S xs vs R Q hr rx ⟨a, kvs, ks, e, h, h1, hz, q⟩ k => by
  subst e
  cases rx with
  | cons r rr =>
    cases rr
    cases r
    obtain ⟨us, h2, l⟩ := hr.cell h
    have hsl := sizeLine_eq
    exact ⟨a, us, ks, rfl, .inl h2, by rw [← RpK.keys l]; exact h1, hz, fun ys p hp hso hn => k _ S _ _ (Ev.laid hn) (hr.laid hn) (.lst upd_same (hr.2.none hn) (by rw [List.length_map, hp.length_eq]; omega) (rpl_strs _)) (q ys hp hso)⟩⟩
end
end TL

set_option Elab.async false
set_option linter.all false
set_option maxRecDepth 100000
set_option maxHeartbeats 4000000
/-! TL8: enumerate and zip over lists, tuples and texts; written constants; more. -/
namespace TL
open PySem L2 PyProof.Rows
theorem vals_get' : ∀ {xs : List V} {us : List Value} {i : Nat} {u : Value}, Vals xs us → us[i]? = some u → ∃ x, xs[i]? = some x ∧ RelV x u
  | _, _, _, _, .nil, e => by simp at e
  | _, _, 0, _, .cons r _, e => by simp at e; subst e; exact ⟨_, rfl, r⟩
  | _, _, i + 1, _, .cons _ t, e => by
    obtain ⟨x, h1, h2⟩ := vals_get' (i := i) t (by simpa using e)
    exact ⟨x, by simpa using h1, h2⟩
/-- what an iterator draws from -/
inductive Src where
  | l (a : Addr) | t (a : Addr) | s (z : Str) (k : Tok)
def Src.val : Src → Value
  | .l a => .ref a | .t a => .ref a | .s z k => .str z k
def Src.v : Src → V
  | .l a => .ref a | .t a => .ref a | .s z _ => .str z
def Src.sq (K : PySem.W.Frag) (H : Hp) : Src → List V → Prop
  | .l a, xs => SqL K H a xs
  | .t a, xs => SqT K H a xs
  | .s z _, xs => xs = z.cps.toList.map fun c => V.str ⟨#[c]⟩
def Src.it (it : Addr) (i : Nat) (h : Heap) : Src → Prop
  | .l a => h.IsListIter it a i
  | .t a => h.IsTupleIter it a i
  | .s z k => h.IsStrIter it (strIterType z) z k i
def Src.ad : Src → List Addr
  | .l a => [a] | .t a => [a] | .s _ _ => []
def Src.ob : Src → Obj
  | .l a => { cls := .type "list_iterator", data := .fields #[.ref a, .int 0 0] }
  | .t a => { cls := .type "tuple_iterator", data := .fields #[.ref a, .int 0 0] }
  | .s z k => { cls := .type (strIterType z), data := .fields #[.str z k, .int 0 0] }
theorem Src.at {o : Src} {it : Addr} {i : Nat} {h h' : Heap} (st : o.it it i h) (k : ∀ ob, h.get? it = some ob → h'.get? it = some ob) : o.it it i h' := by
  cases o with
  | l a => exact Heap.IsListIter.at st k
  | t a => exact Heap.IsTupleIter.at st k
  | s z t => obtain ⟨ob, e, r⟩ := st; exact ⟨ob, k _ e, r⟩
theorem Src.cell {o : Src} {it : Addr} {i : Nat} {h : Heap} (st : o.it it i h) : ∃ ob, h.get? it = some ob ∧ ∀ v, ob.data ≠ .cell v := by
  cases o with
  | l a => obtain ⟨ob, e, _, d⟩ := st; exact ⟨ob, e, fun v q => by rw [d] at q; cases q⟩
  | t a => obtain ⟨ob, e, _, d⟩ := st; exact ⟨ob, e, fun v q => by rw [d] at q; cases q⟩
  | s z t => obtain ⟨ob, e, _, d⟩ := st; exact ⟨ob, e, fun v q => by rw [d] at q; cases q⟩
theorem Src.start {o : Src} {it : Addr} {h : Heap} (e : h.get? it = some o.ob) : o.it it 0 h := by
  cases o <;> exact ⟨_, e, rfl, rfl⟩
section
variable {X : Cx} {pins : List (Addr × Obj)} {σ : L2.St} {H : Hp} {s : Shared}
theorem Src.inj {o : Src} {xs ys : List V} (I : Inv X pins σ H s) (a : o.sq X.K H xs) (b : o.sq X.K H ys) : xs = ys := by
  cases o with
  | l _ => exact I.list_inj a b
  | t _ => exact I.tuple_inj a b
  | s z k => exact (show xs = _ from a).trans (show ys = _ from b).symm
theorem Src.lt {o : Src} {xs : List V} (I : Inv X pins σ H s) (a : o.sq X.K H xs) : ∀ c ∈ o.ad, c < s.heap.objs.size := by
  intro c hc
  cases o with
  | l d =>
    obtain ⟨its, rv, p, _⟩ := I.list a
    have e : c = d := by simpa [Src.ad] using hc
    subst e
    exact p.lt
  | t d =>
    obtain ⟨its, rv, p, _⟩ := I.tuple a
    have e : c = d := by simpa [Src.ad] using hc
    subst e
    obtain ⟨_, e, _⟩ := p
    exact Heap.lt_size e
  | s z k => simp [Src.ad] at hc
/-- the draws -/
theorem Src.draws {A : Around} {o : Src} {xs : List V} (I : Inv X pins σ H s) (q : o.sq X.K H xs) (hh : A.handled = none) {it : Addr} (ho : it ∉ o.ad) :
    ∃ (P : Nat → Value → Prop) (St : Nat → Heap → Prop), Draws X.prog X.w A it (it :: o.ad) xs.length P St ∧ (∀ i u, P i u → ∃ x, xs[i]? = some x ∧ RelV x u) ∧ (∀ i, o.it it i s.heap → St i s.heap) ∧ ∀ i h, St i h → o.it it i h := by
  cases o with
  | l a =>
    obtain ⟨its, rv, p, _⟩ := I.list q
    have D := Draws.list (prog := X.prog) (w := X.w) hh it a (fun e => ho (by simp [Src.ad, e])) its.toArray
    rw [show its.toArray.size = xs.length by rw [rv.length]; simp] at D
    exact ⟨_, _, D, fun i u hu => by obtain ⟨v, hv, r⟩ := vals_get' rv (by simpa using hu); exact ⟨v, hv, r⟩, fun i h => ⟨h, p.isList⟩, fun i h st => st.1⟩
  | t a =>
    obtain ⟨its, rv, p, _⟩ := I.tuple q
    have D := Draws.tuple (prog := X.prog) (w := X.w) hh it a (fun e => ho (by simp [Src.ad, e])) its.toArray
    rw [show its.toArray.size = xs.length by rw [rv.length]; simp] at D
    exact ⟨_, _, D, fun i u hu => by obtain ⟨v, hv, r⟩ := vals_get' rv (by simpa using hu); exact ⟨v, hv, r⟩, fun i h => ⟨h, p⟩, fun i h st => st.1⟩
  | s z k =>
    have q : xs = _ := q
    subst q
    have D := Draws.text (prog := X.prog) (w := X.w) hh it z k
    rw [show z.cps.size = (z.cps.toList.map fun c => V.str ⟨#[c]⟩).length by simp] at D
    refine ⟨_, _, D, ?_, fun i h => h, fun i h st => st⟩
    rintro i u ⟨c, tk, h1, h2⟩
    refine ⟨.str ⟨#[c]⟩, ?_, ⟨tk, h2⟩⟩
    rw [List.getElem?_map]
    have h3 : z.cps.toList[i]? = some c := by simpa using h1
    rw [h3]
    rfl
theorem Src.begins {o : Src} {xs : List V} (I : Inv X pins σ H s) (q : o.sq X.K H xs) : ∃ G : Heap → Prop, Begins o.val o.ob G ∧ G s.heap := by
  cases o with
  | l a => obtain ⟨its, rv, p, _⟩ := I.list q; exact ⟨_, begins_list a its.toArray, p.isList⟩
  | t a => obtain ⟨its, rv, p, _⟩ := I.tuple q; exact ⟨_, begins_tuple a its.toArray, p⟩
  | s z k => exact ⟨_, begins_text z k, trivial⟩
end
/-! ### enumerate -/
def ItE (K : PySem.W.Frag) (o : Src) : It :=
  ⟨fun i H => ∃ (xs : List V) (x : V), o.sq K H xs ∧ xs[i]? = some x, fun i H v H' => ∃ T x, v = .ref T ∧ H T = none ∧ H' = upd H T (.tup [.int (i : Nat), x]) ∧ ∀ xs, o.sq K H xs → xs[i]? = some x, fun i H => ∃ xs : List V, o.sq K H xs ∧ xs.length = i⟩
theorem turn_enumS {P : Program} {w : World} {K : PySem.W.Frag} {elts : List Expr} {kk : Nat} {tpos : Pos} (o : Src) (e it : Addr) (hne : e ≠ it) (hi : it ∉ o.ad) (he' : e ∉ o.ad) :
    Turn P w K (.Tuple elts kk tpos) (ItE K o) [e, it] e (fun i h => (∃ old, IsEnum h e it ((i : Nat) : Int) old) ∧ o.it it i h) where
  mem := by simp
  obj := fun i h st b hb => by
    obtain ⟨⟨old, he⟩, hit⟩ := st
    have e' : b = e ∨ b = it := by simpa using hb
    rcases e' with z | z
    · rw [z]; exact ⟨_, he, fun v q => nomatch q⟩
    · rw [z]; exact Src.cell hit
  keep := fun i h h' st k => let ⟨⟨old, he⟩, hi⟩ := st; ⟨⟨old, k e (by simp) _ he⟩, Src.at hi fun o q => k it (by simp) o q⟩
  item := by
    intro X hP hw hK hc i pins s σ H E I hf st hg
    subst hP hw hK
    obtain ⟨⟨old, he⟩, hit⟩ := st
    obtain ⟨xs, x, hq, hx⟩ := hg
    obtain ⟨Pd, St, D, hP, hS, hB⟩ := Src.draws (A := X.A.in1) I hq (I.ok.hd hc) hi
    have hel : e < s.heap.objs.size := Heap.lt_size he
    have hil : it < s.heap.objs.size := by obtain ⟨_, q, _⟩ := Src.cell hit; exact Heap.lt_size q
    refine wpAny_pyNext_enum_itemD D he (hS _ hit) (List.getElem?_eq_some_iff.mp hx).1 hne (by simp [hne, he']) fun u h' tk hpu ho hit' hT hsz hk => ?_
    obtain ⟨x', hx', ru⟩ := hP _ _ hpu
    rw [hx] at hx'
    cases hx'
    refine ⟨_, rfl, wpAny_letOwnedTupleGo_enum (s := { s with heap := h', toks := tk + 1 }) ho fun h'' he' sb => ?_⟩
    have hT2 : h''.get? s.heap.objs.size = some { cls := .type "tuple", data := .seq #[.int i tk, u] } := (sb.2 _ (Nat.ne_of_gt hel)).trans hT
    have new : ObjOk X.prog X.w (upd H s.heap.objs.size (.tup [.int (i : Nat), x])) h'' s.heap.objs.size (.tup [.int (i : Nat), x]) :=
      ⟨by show 2 ≤ sizeLine; decide, [.int i tk, u], .cons ⟨_, rfl⟩ (.cons ru .nil), ⟨_, hT2, rfl, _, rfl⟩⟩
    have I1 : Inv X pins σ (upd H s.heap.objs.size (.tup [.int (i : Nat), x])) { s with heap := h'', toks := tk + 1 } :=
      I.turnedNew (ch := [e, it]) (fun b ob hb q => (sb.2 b (fun z => hb (by simp [z]))).trans (hk b ob (fun z => hb (by simp [z])) (fun z => hb (by simp [z])) q)) hf (Nat.le_refl _) new
    refine ⟨.ref s.heap.objs.size, _, I1, rfl, ⟨_, x, rfl, I.hok.fresh (Nat.le_refl _), rfl, fun ys hy => by rw [Src.inj I hy hq]; exact hx⟩, ⟨⟨u, ?_⟩, Src.at (hB _ _ hit') fun o q => (sb.2 it (Ne.symm hne)).trans q⟩, fun b hb => ?_⟩
    · have e1 : ((i + 1 : Nat) : Int) = (i : Int) + 1 := by omega
      rw [e1]; exact he'
    · have hb' : b < s.heap.objs.size := by
        have e' : b = e ∨ b = it := by simpa using hb
        rcases e' with z | z
        · rw [z]; exact hel
        · rw [z]; exact hil
      rw [upd_ne (Nat.ne_of_lt hb')]
      exact (hf b hb).1
  done := by
    intro X hP hw hK hc i pins s σ H E I hf st hg
    subst hP hw hK
    obtain ⟨⟨old, he⟩, hit⟩ := st
    obtain ⟨xs, hq, hx⟩ := hg
    obtain ⟨Pd, St, D, hP, hS, hB⟩ := Src.draws (A := X.A.in1) I hq (I.ok.hd hc) hi
    obtain ⟨f0, f1, f2, f3, f4, f5⟩ := hf it (by simp)
    refine wpAny_pyNext_enum_endD D he (by rw [hx]; exact hS _ hit) fun h' eb => ⟨rfl, I.turned (t' := s.toks) (fun b o hb q => eb b o hb q) f0 f1 f3 f4 f5⟩
  self := fun A i s Q E st h => let ⟨⟨_, he⟩, _⟩ := st; wpAny_pyIter_enum he h
set_option maxHeartbeats 1000000 in
theorem meets_enum1 {v : Value} {o : Obj} {H : Heap → Prop} (B : Begins v o H) :
    Meets (Builtin.«enumerate.__new__» ⟨[.type "enumerate", v], []⟩) (fun _ R s => H s.heap ∧
      R (.ok (.ret (.ref (s.heap.push o).objs.size))) { s with heap := (s.heap.push o).push { cls := .type "enumerate", data := .fields #[.none, .bool false, .ref s.heap.objs.size, rawInt 0, .none, .none] } }) :=
  .of_wp fun prog w A R s h => by
    obtain ⟨hp, g, d, tk, os⟩ := s; obtain ⟨h1, h⟩ := h
    have hsub := sub_enumerate
    have q1 : ∀ {A' : Around} {E : Value → Shared → Prop} {Q : Value → Shared → Prop}, Q (.ref hp.objs.size) ⟨hp.push o, g, d, tk, os⟩ → wpAny (model prog w) A' (pyIter v) Q E ⟨hp, g, d, tk, os⟩ :=
      fun q => B.iter prog w _ _ ⟨hp, g, d, tk, os⟩ _ h1 q
    wp_walk using q1
    refine wpAny_stack_any fun st => wpAny_pure ?_
    split
    · rename_i c _ _ _ _ _
      cases (c == Value.type "enumerate")
      · wp_walk using q1
        exact ⟨_, rfl, h⟩
      · wp_walk using q1
        exact ⟨_, rfl, h⟩
    · wp_walk using q1
      exact ⟨_, rfl, h⟩
theorem enum_begins1 {prog : Program} {w : World} {A : Around} {E : Value → Shared → Prop} {s : Shared} {v : Value} {o : Obj} {H : Heap → Prop} {Q : Value → Shared → Prop} (B : Begins v o H) (h1 : H s.heap)
    (h : ∀ h', IsEnum h' (s.heap.objs.size + 1) s.heap.objs.size 0 .none → h'.get? s.heap.objs.size = some o → h'.objs.size = s.heap.objs.size + 2 →
      (∀ b o, s.heap.get? b = some o → h'.get? b = some o) → Q (.ref (s.heap.objs.size + 1)) { s with heap := h' }) :
    wpAny (model prog w) A (call (.type "enumerate") [v]) Q E s := by
  refine callType_new F.called_enumerate (by decide) (F.typeCall_enumerate_1 _) (F.newCall_enumerate_1 _) (fun obj => F.args_object_init_2 obj _) F.entry_enumerate_new
    (meets_enum1 B) ⟨h1, ?_⟩
  have hz : (s.heap.push o).objs.size = s.heap.objs.size + 1 := Heap.size_push ..
  show _ ∧ _
  rw [hz]
  have he : IsEnum ((s.heap.push o).push { cls := .type "enumerate", data := .fields #[.none, .bool false, .ref s.heap.objs.size, rawInt 0, .none, .none] }) (s.heap.objs.size + 1) s.heap.objs.size 0 .none := by
    have := Heap.get?_push_size (s.heap.push o) (o := { cls := .type "enumerate", data := .fields #[.none, .bool false, .ref s.heap.objs.size, rawInt 0, .none, .none] }) rfl
    rw [hz] at this; exact this
  refine ⟨⟨_, he, rfl⟩, h _ he (Heap.get?_push_of_some _ (Heap.get?_push_size _ B.free)) (by rw [Heap.size_push, hz]) fun b o x => Heap.get?_push_of_some _ (Heap.get?_push_of_some _ x)⟩
/-- the source of a value -/
def SrcV (K : PySem.W.Frag) (H : Hp) (v : V) (xs : List V) (o : Src) : Prop := o.v = v ∧ o.sq K H xs
def Src.ok (K : PySem.W.Frag) (H : Hp) (v : V) (xs : List V) (R : Src → Prop) : Prop :=
  (∃ a, v = .ref a ∧ SqL K H a xs ∧ R (.l a)) ∨ (∃ a, v = .ref a ∧ SqT K H a xs ∧ R (.t a)) ∨ ∃ z, v = .str z ∧ (xs = z.cps.toList.map fun c => V.str ⟨#[c]⟩) ∧ ∀ k, R (.s z k)
theorem Src.of {K : PySem.W.Frag} {H : Hp} {v : V} {u : Value} {xs : List V} {R : Src → Prop} (h : Src.ok K H v xs R) (r : RelV v u) : ∃ o : Src, o.val = u ∧ o.sq K H xs ∧ R o := by
  rcases h with ⟨a, rfl, q, w⟩ | ⟨a, rfl, q, w⟩ | ⟨z, rfl, q, w⟩
  · cases r; exact ⟨.l a, rfl, q, w⟩
  · cases r; exact ⟨.t a, rfl, q, w⟩
  · obtain ⟨t, rfl⟩ := r; exact ⟨.s z t, rfl, q, w t⟩
def iEnumS (K : PySem.W.Frag) (ta : TA) : L2.TI := fun σ H R => ta σ H fun vs H1 => ∃ v xs, vs = [v] ∧ Src.ok K H1 v xs fun o => R (ItE K o) H1
theorem pi_enumS {X : Cx} {e : Expr} {ta : TA} {p pos tpos : Pos} {elts : List Expr} {kk : Nat} (hg : Gl X "enumerate") (hm : X.mg "enumerate" = none) (ha : PA X [e] ta) (hs : starEach [e] X.env = [(false, eval e X.env)] := by rfl) :
    PI X (.Tuple elts kk tpos) (.Call (.Name "enumerate" p) [e] [] pos) (iEnumS X.K ta) := by
  refine ⟨fun pins s σ H R I h => ?_⟩
  refine Call_ (ld_blt I hg hm boot_enumerate (PyProof.Rows.callWith_type1 (thn (ha.run pos pins s σ H _ I h) fun us s1 ⟨vs, H1, I1, r1, q1⟩ => ?_) hs rfl))
  obtain ⟨v, xs, ex, q1⟩ := q1
  subst ex
  cases r1 with
  | cons r rr =>
    cases rr
    obtain ⟨o, ho, hq, q⟩ := Src.of q1 r
    subst ho
    obtain ⟨G, B, hG⟩ := Src.begins I1 hq
    refine enum_begins1 B hG fun h' he hit hsz hk => wpAny_pyIter_enum he ?_
    have I2 : Inv X pins σ H1 { s1 with heap := h' } := I1.kept (t' := s1.toks) hk
    have lt := Src.lt I1 hq
    refine ⟨s1.heap.objs.size + 1, [s1.heap.objs.size + 1, s1.heap.objs.size], _, _, H1, rfl, I2, turn_enumS o (s1.heap.objs.size + 1) s1.heap.objs.size (Nat.succ_ne_self _) (fun m => Nat.lt_irrefl _ (lt _ m)) (fun m => Nat.lt_irrefl _ (Nat.lt_trans (Nat.lt_succ_self _) (lt _ m))), ⟨⟨.none, he⟩, Src.start hit⟩, fun b hb => ?_, q⟩
    have e' : b = s1.heap.objs.size + 1 ∨ b = s1.heap.objs.size := by simpa using hb
    have hle : s1.heap.objs.size ≤ b := by
      rcases e' with z | z
      · rw [z]; exact Nat.le_add_right _ _
      · rw [z]; exact Nat.le_refl _
    exact I1.fpOk hle (I1.hok.fresh hle)
/-! ### zip -/
def ItZ (K : PySem.W.Frag) (o o2 : Src) : It :=
  ⟨fun i H => ∃ (xs ys : List V) (x y : V), o.sq K H xs ∧ o2.sq K H ys ∧ xs[i]? = some x ∧ ys[i]? = some y,
    fun i H v H' => ∃ T x y, v = .ref T ∧ H T = none ∧ H' = upd H T (.tup [x, y]) ∧ (∀ xs, o.sq K H xs → xs[i]? = some x) ∧ ∀ ys, o2.sq K H ys → ys[i]? = some y,
    fun i H => ∃ xs ys : List V, o.sq K H xs ∧ o2.sq K H ys ∧ i ≤ xs.length ∧ i ≤ ys.length ∧ (xs.length = i ∨ ys.length = i)⟩
theorem turn_zipS {P : Program} {w : World} {K : PySem.W.Frag} {elts : List Expr} {kk : Nat} {tpos : Pos} {o o2 : Src} {z TI TO i1 i2 : Addr} (D : ZipSep2 z TI TO i1 i2 (i1 :: o.ad) (i2 :: o2.ad)) (h11 : i1 ∉ o.ad) (h22 : i2 ∉ o2.ad) :
    Turn P w K (.Tuple elts kk tpos) (ItZ K o o2) [z, TI, TO, i1, i2] z (fun i h => IsZip h z TI TO .none ∧ IsTupOf2 h TI (.ref i1) (.ref i2) ∧ (∃ x y, IsTupOf2 h TO x y) ∧ o.it i1 i h ∧ o2.it i2 i h) where
  mem := by simp
  obj := fun i h st c hc => by
    obtain ⟨hz, hTI, ⟨x, y, hTO⟩, h1, h2⟩ := st
    have e' : c = z ∨ c = TI ∨ c = TO ∨ c = i1 ∨ c = i2 := by simpa using hc
    rcases e' with q | q | q | q | q
    · rw [q]; exact ⟨_, hz, fun v q => nomatch q⟩
    · rw [q]; exact ⟨_, hTI, fun v q => nomatch q⟩
    · rw [q]; exact ⟨_, hTO, fun v q => nomatch q⟩
    · rw [q]; exact Src.cell h1
    · rw [q]; exact Src.cell h2
  keep := fun i h h' st k => by
    obtain ⟨hz, hTI, ⟨x, y, hTO⟩, h1, h2⟩ := st
    exact ⟨k z (by simp) _ hz, k TI (by simp) _ hTI, ⟨x, y, k TO (by simp) _ hTO⟩, Src.at h1 fun o q => k i1 (by simp) o q, Src.at h2 fun o q => k i2 (by simp) o q⟩
  item := by
    intro X hP hw hK hc i pins s σ H E I hf st hg
    subst hP hw hK
    obtain ⟨hz, hTI, ⟨x0, y0, hTO⟩, h1, h2⟩ := st
    obtain ⟨xs, ys, x, y, hqx, hqy, hx, hy⟩ := hg
    obtain ⟨P1, St1, D1, hP1, hS1, hB1⟩ := Src.draws (A := X.A.in1) I hqx (I.ok.hd hc) h11
    obtain ⟨P2, St2, D2, hP2, hS2, hB2⟩ := Src.draws (A := X.A.in1) I hqy (I.ok.hd hc) h22
    have hzl : z < s.heap.objs.size := Heap.lt_size hz
    refine wpAny_pyNext_zipD2_item D D1 D2 hz hTI hTO (hS1 _ h1) (hS2 _ h2) (List.getElem?_eq_some_iff.mp hx).1 (List.getElem?_eq_some_iff.mp hy).1 fun u u2 h' tk p1 p2 z' TO' h1' h2' hT hsz hk => ?_
    obtain ⟨x', hx', ru⟩ := hP1 _ _ p1
    rw [hx] at hx'
    cases hx'
    obtain ⟨y', hy', ru2⟩ := hP2 _ _ p2
    rw [hy] at hy'
    cases hy'
    refine ⟨_, rfl, wpAny_letOwnedTupleGo_zip (s := { s with heap := h', toks := tk }) z' fun h'' z'' sb => ?_⟩
    have hT2 : h''.get? s.heap.objs.size = some { cls := .type "tuple", data := .seq #[u, u2] } := (sb.2 _ (Nat.ne_of_gt hzl)).trans hT
    have new : ObjOk X.prog X.w (upd H s.heap.objs.size (.tup [x, y])) h'' s.heap.objs.size (.tup [x, y]) :=
      ⟨by show 2 ≤ sizeLine; decide, [u, u2], .cons ru (.cons ru2 .nil), ⟨_, hT2, rfl, _, rfl⟩⟩
    have I1 : Inv X pins σ (upd H s.heap.objs.size (.tup [x, y])) { s with heap := h'', toks := tk } :=
      I.turnedNew (ch := [z, TI, TO, i1, i2]) (fun c o hb q => (sb.2 c (fun q' => hb (by simp [q']))).trans (hk c o (fun q' => hb (by simp [q'])) (fun q' => hb (by simp [q'])) (fun q' => hb (by simp [q'])) (fun q' => hb (by simp [q'])) q)) hf (Nat.le_refl _) new
    refine ⟨.ref s.heap.objs.size, _, I1, rfl, ⟨_, x, y, rfl, I.hok.fresh (Nat.le_refl _), rfl, fun l hl => by rw [Src.inj I hl hqx]; exact hx, fun l hl => by rw [Src.inj I hl hqy]; exact hy⟩, ⟨z'', ?_, ⟨u, u2, ?_⟩, ?_, ?_⟩, fun c hcm => ?_⟩
    · exact (sb.2 _ D.TIz).trans (hk _ _ D.TIz D.TITO D.TIi1 D.TIi2 hTI)
    · exact (sb.2 _ D.TOz).trans TO'
    · exact Src.at (hB1 _ _ h1') fun o q => (sb.2 _ D.zi1.symm).trans q
    · exact Src.at (hB2 _ _ h2') fun o q => (sb.2 _ D.zi2.symm).trans q
    · have hlt : c < s.heap.objs.size := by
        have e' : c = z ∨ c = TI ∨ c = TO ∨ c = i1 ∨ c = i2 := by simpa using hcm
        rcases e' with q | q | q | q | q
        · rw [q]; exact hzl
        · rw [q]; exact Heap.lt_size hTI
        · rw [q]; exact Heap.lt_size hTO
        · rw [q]; obtain ⟨_, e1, _⟩ := Src.cell h1; exact Heap.lt_size e1
        · rw [q]; obtain ⟨_, e2, _⟩ := Src.cell h2; exact Heap.lt_size e2
      rw [upd_ne (Nat.ne_of_lt hlt)]
      exact (hf c hcm).1
  done := by
    intro X hP hw hK hc i pins s σ H E I hf st hg
    subst hP hw hK
    obtain ⟨hz, hTI, ⟨x0, y0, hTO⟩, h1, h2⟩ := st
    obtain ⟨xs, ys, hqx, hqy, l1, l2, hend⟩ := hg
    obtain ⟨P1, St1, D1, hP1, hS1, hB1⟩ := Src.draws (A := X.A.in1) I hqx (I.ok.hd hc) h11
    obtain ⟨P2, St2, D2, hP2, hS2, hB2⟩ := Src.draws (A := X.A.in1) I hqy (I.ok.hd hc) h22
    refine wpAny_pyNext_zipD2_end D D1 D2 hz hTI hTO (hS1 _ h1) (hS2 _ h2) l1 l2 (by omega) fun h' tk hk => ⟨rfl, I.turnedL (t' := tk) (ch := [z, TI, TO, i1, i2]) (fun c o hb q =>
      hk c o (fun q' => hb (by simp [q'])) (fun q' => hb (by simp [q'])) (fun q' => hb (by simp [q'])) (fun q' => hb (by simp [q'])) q) hf⟩
  self := fun A i s Q E st h => wpAny_pyIter_zip st.1 h
def iZipS (K : PySem.W.Frag) (ta : TA) : L2.TI := fun σ H R => ta σ H fun vs H1 => ∃ v u xs ys, vs = [v, u] ∧ Src.ok K H1 v xs fun o => Src.ok K H1 u ys fun o2 => R (ItZ K o o2) H1
theorem pi_zipS {X : Cx} {e e2 : Expr} {ta : TA} {p pos tpos : Pos} {elts : List Expr} {kk : Nat} (hg : Gl X "zip") (hm : X.mg "zip" = none) (ha : PA X [e, e2] ta)
    (hs : starEach [e, e2] X.env = (false, eval e X.env) :: starEach [e2] X.env := by rfl) (hpl : (backTo pos (starEach [e2] X.env)).any (·.1) = false := by rfl) :
    PI X (.Tuple elts kk tpos) (.Call (.Name "zip" p) [e, e2] [] pos) (iZipS X.K ta) := by
  refine ⟨fun pins s σ H R I h => ?_⟩
  refine Call_ (ld_blt I hg hm PyProof.Rows.boot_zip (PyProof.Rows.callWith_type1 (thn (ha.run pos pins s σ H _ I h) fun us s1 ⟨vs, H1, I1, r1, q1⟩ => ?_) hs hpl))
  obtain ⟨v, u, xs, ys, ex, q1⟩ := q1
  subst ex
  cases r1 with
  | cons r rr =>
    cases rr with
    | cons r' rr =>
      cases rr
      obtain ⟨o, ho, hq, q2⟩ := Src.of q1 r
      subst ho
      obtain ⟨o2, ho2, hq2, q⟩ := Src.of q2 r'
      subst ho2
      obtain ⟨G, B, hG⟩ := Src.begins I1 hq
      obtain ⟨G2, B2, hG2⟩ := Src.begins I1 hq2
      have la := Src.lt I1 hq
      have lb := Src.lt I1 hq2
      refine zip_begins2 B B2 hG hG2 fun h' hz hTI hTO h1 h2 hsz hk => wpAny_pyIter_zip hz ?_
      have I2 : Inv X pins σ H1 { s1 with heap := h' } := I1.kept (t' := s1.toks) hk
      refine ⟨s1.heap.objs.size + 4, [s1.heap.objs.size + 4, s1.heap.objs.size + 2, s1.heap.objs.size + 3, s1.heap.objs.size, s1.heap.objs.size + 1], _, _, H1, rfl, I2, turn_zipS (zip_sep2 la lb) (fun m => Nat.lt_irrefl _ (la _ m)) (fun m => Nat.lt_irrefl _ (Nat.lt_trans (Nat.lt_succ_self _) (lb _ m))), ⟨hz, hTI, ⟨_, _, hTO⟩, Src.start h1, Src.start h2⟩, fun c hcm => ?_, q⟩
      have e' : c = s1.heap.objs.size + 4 ∨ c = s1.heap.objs.size + 2 ∨ c = s1.heap.objs.size + 3 ∨ c = s1.heap.objs.size ∨ c = s1.heap.objs.size + 1 := by simpa using hcm
      have hle : s1.heap.objs.size ≤ c := by
        rcases e' with z | z | z | z | z
        · rw [z]; exact Nat.le_add_right _ _
        · rw [z]; exact Nat.le_add_right _ _
        · rw [z]; exact Nat.le_add_right _ _
        · rw [z]; exact Nat.le_refl _
        · rw [z]; exact Nat.le_add_right _ _
      exact I1.fpOk hle (I1.hok.fresh hle)
end TL

set_option Elab.async false
set_option linter.all false
set_option maxRecDepth 100000
set_option maxHeartbeats 4000000
/-! TL9: enumerate, zip at trees; written constants; keywords; more operations. -/
namespace TL
open PySem L2 PyProof.Rows
theorem hu64 {k : Nat} {A : Around} (r : Room k A) : A.units + 64 < cLine := r.units
section
variable {X : Cx}
/-! ### targets -/
theorem pgn {e : Expr} {i : Nat} (h : PG X e (gName i)) : PG X e ((Tg.nm i).tg X.K) := h
theorem pgsn : PGs X [] (Tgs.nil.tgs X.K) := pgs_nil
theorem pgsc {e : Expr} {es : List Expr} {t : Tg} {ts : Tgs} (h1 : PG X e (t.tg X.K)) (h2 : PGs X es (ts.tgs X.K)) (hs : (assignEach (e :: es) X.env).map (·.2) = assign e X.env :: (assignEach es X.env).map (·.2) := by rfl) : PGs X (e :: es) ((Tgs.cons t ts).tgs X.K) := pgs_cons h1 h2 hs
/-! ### enumerate, zip -/
theorem src_of {K : PySem.W.Frag} {F : Sto} {H : Hp} {S : Sto} {t : T} {v : V} {ts : List T} (r : RpF K F H S t v) (e : itemsT t = some ts) : ∃ us, RpLF K F H S ts us ∧ ∀ R : Src → Prop, (∀ o : Src, o.sq K H us → (∀ F1 H1 S1, Ev K H (mix S F) H1 (mix S1 F1) → o.sq K H1 us) → R o) → Src.ok K H v us R := by
  cases r with
  | tup a b c =>
    cases e
    exact ⟨_, c, fun R k => .inr (.inl ⟨_, rfl, .inl (.inl a), k _ (.inl (.inl a)) fun F1 H1 S1 e => .inl (.inl (e.tup _ _ a))⟩)⟩
  | lst a n b c =>
    cases e
    exact ⟨_, c, fun R k => .inl ⟨_, rfl, .inl (.inl a), k _ (.inl (.inl a)) fun F1 H1 S1 e => .inl (.inl (e.lst _ _ n a).1)⟩⟩
  | arg a b =>
    cases e
    exact ⟨_, rpl_ints _, fun R k => .inl ⟨_, rfl, a.seq, k _ a.seq fun F1 H1 S1 e => (ArgOk.ev e a).seq⟩⟩
  | str z =>
    cases e
    exact ⟨_, rpl_signs _, fun R k => .inr (.inr ⟨z, rfl, rfl, fun tk => k (.s z tk) rfl fun _ _ _ _ => rfl⟩)⟩
  | _ => simp [itemsT] at e
/-- (0, x), (1, y), .. -/
def enumT (i : Nat) : List T → List T
  | [] => []
  | t :: ts => .tup [.int (i : Nat), t] :: enumT (i + 1) ts
theorem enumT_length : ∀ (ts : List T) (i : Nat), (enumT i ts).length = ts.length
  | [], _ => rfl
  | t :: ts, i => congrArg (· + 1) (enumT_length ts (i + 1))
theorem enumT_get : ∀ {ts : List T} {k i : Nat} {t : T}, ts[i]? = some t → (enumT k ts)[i]? = some (.tup [.int ((k + i : Nat) : Int), t])
  | [], _, _, _, h => by simp at h
  | x :: xs, k, 0, t, h => by simp at h; subst h; rfl
  | x :: xs, k, i + 1, t, h => by
    have := enumT_get (k := k + 1) (i := i) (ts := xs) (t := t) (by simpa using h)
    rw [show k + (i + 1) = k + 1 + i by omega]
    simpa [enumT] using this
theorem goes_enum {K : PySem.W.Frag} {F : Sto} {o : Src} {ts : List T} {us : List V} {H : Hp} {S : Sto} (l : RpLF K F H S ts us) (g : ∀ F1 H1 S1, Ev K H (mix S F) H1 (mix S1 F1) → o.sq K H1 us) : Goes K F (ItE K o) (enumT 0 ts) H S := by
  refine ⟨fun F1 H1 S1 e i hi => ?_, fun F1 H1 S1 e => ⟨us, g _ _ _ e, by rw [enumT_length, l.length]⟩, fun F1 H1 S1 e hr i x H2 hi y => ?_⟩
  · rw [enumT_length, l.length] at hi
    exact ⟨us, us[i], g _ _ _ e, List.getElem?_eq_getElem hi⟩
  · rw [enumT_length, l.length] at hi
    obtain ⟨p, u, ex, hp, eH, hx⟩ := y
    subst ex; subst eH
    obtain ⟨t, ht, r⟩ := l.get (hx us (g _ _ _ e))
    have ev : EvF K F1 H1 S1 (upd H1 p (.tup [.int (i : Nat), u])) S1 := Ev.laid hp
    exact ⟨_, by rw [enumT_get ht, Nat.zero_add], ev, hr.laid hp, .tup upd_same (by show 2 ≤ sizeLine; decide) (.cons (.int _) (.cons ((r.ev e).ev ev) .nil))⟩
def wEnum (w : WE) : WA := fun ρ S R => w ρ S fun t S1 => ∃ ts, itemsT t = some ts ∧ R (enumT 0 ts) S1
theorem tit_enum {e : Expr} {w : WE} {p pos tpos : Pos} {elts : List Expr} {kk : Nat} (hg : Gl X "enumerate") (hm : X.mg "enumerate" = none) (h : TX X e w) (hs : starEach [e] X.env = [(false, eval e X.env)] := by rfl) : TIt X (.Tuple elts kk tpos) (.Call (.Name "enumerate" p) [e] [] pos) (wEnum w) := by
  refine ⟨PI.imp (pi_enumS hg hm (pa_cons h.pe pa_nil hs) hs) fun σ H R' ⟨F, ρ, S, R, he, hr, w', k⟩ => ?_⟩
  refine ⟨F, ρ, S, _, he, hr, w', fun t S1 v H1 e1 hr1 r1 ⟨ts, h1, q⟩ => ?_⟩
  obtain ⟨us, l, f⟩ := src_of r1 h1
  exact ⟨v, us, rfl, f _ fun o ho g => k _ S1 H1 _ e1 hr1 (goes_enum l g) q⟩
def zipT : List T → List T → List T
  | x :: xs, y :: ys => .tup [x, y] :: zipT xs ys
  | _, _ => []
theorem zipT_length : ∀ (xs ys : List T), (zipT xs ys).length = min xs.length ys.length
  | [], ys => by simp [zipT]
  | _ :: _, [] => by simp [zipT]
  | x :: xs, y :: ys => by
    have := zipT_length xs ys
    simp only [zipT, List.length_cons, this]
    omega
theorem zipT_get : ∀ {xs ys : List T} {i : Nat} {x y : T}, xs[i]? = some x → ys[i]? = some y → (zipT xs ys)[i]? = some (.tup [x, y])
  | [], _, _, _, _, h, _ => by simp at h
  | _ :: _, [], _, _, _, _, h => by simp at h
  | x :: xs, y :: ys, 0, _, _, h, h2 => by simp at h h2; subst h; subst h2; rfl
  | x :: xs, y :: ys, i + 1, _, _, h, h2 => by simpa [zipT] using zipT_get (i := i) (xs := xs) (ys := ys) (by simpa using h) (by simpa using h2)
theorem goes_zip {K : PySem.W.Frag} {F : Sto} {o o2 : Src} {ts ts2 : List T} {us us2 : List V} {H : Hp} {S : Sto} (l : RpLF K F H S ts us) (g : ∀ F1 H1 S1, Ev K H (mix S F) H1 (mix S1 F1) → o.sq K H1 us)
    (l2 : RpLF K F H S ts2 us2) (g2 : ∀ F1 H1 S1, Ev K H (mix S F) H1 (mix S1 F1) → o2.sq K H1 us2) : Goes K F (ItZ K o o2) (zipT ts ts2) H S := by
  have e1 := l.length
  have e2 := l2.length
  refine ⟨fun F1 H1 S1 e i hi => ?_, fun F1 H1 S1 e => ⟨us, us2, g _ _ _ e, g2 _ _ _ e, ?_, ?_, ?_⟩, fun F1 H1 S1 e hr i x H2 hi y => ?_⟩
  · rw [zipT_length] at hi
    have h1 : i < us.length := by omega
    have h2 : i < us2.length := by omega
    exact ⟨us, us2, us[i], us2[i], g _ _ _ e, g2 _ _ _ e, List.getElem?_eq_getElem h1, List.getElem?_eq_getElem h2⟩
  · rw [zipT_length]; omega
  · rw [zipT_length]; omega
  · rw [zipT_length]; omega
  · obtain ⟨p, u, u2, ex, hp, eH, hx, hx2⟩ := y
    subst ex; subst eH
    obtain ⟨t, ht, r⟩ := l.get (hx us (g _ _ _ e))
    obtain ⟨t2, ht2, r2⟩ := l2.get (hx2 us2 (g2 _ _ _ e))
    have ev : EvF K F1 H1 S1 (upd H1 p (.tup [u, u2])) S1 := Ev.laid hp
    exact ⟨_, zipT_get ht ht2, ev, hr.laid hp, .tup upd_same (by show 2 ≤ sizeLine; decide) (.cons ((r.ev e).ev ev) (.cons ((r2.ev e).ev ev) .nil))⟩
def wZip (w w2 : WE) : WA := fun ρ S R => w ρ S fun t S1 => w2 ρ S1 fun t2 S2 => ∃ ts ts2, itemsT t = some ts ∧ itemsT t2 = some ts2 ∧ R (zipT ts ts2) S2
theorem tit_zip {e e2 : Expr} {w w2 : WE} {p pos tpos : Pos} {elts : List Expr} {kk : Nat} (hg : Gl X "zip") (hm : X.mg "zip" = none) (h : TX X e w) (h2 : TX X e2 w2) (hs : starEach [e, e2] X.env = (false, eval e X.env) :: starEach [e2] X.env := by rfl)
    (hs2 : starEach [e2] X.env = [(false, eval e2 X.env)] := by rfl) (hpl : (backTo pos (starEach [e2] X.env)).any (·.1) = false := by rfl) : TIt X (.Tuple elts kk tpos) (.Call (.Name "zip" p) [e, e2] [] pos) (wZip w w2) := by
  refine ⟨PI.imp (pi_zipS hg hm (pa_cons h.pe (pa_cons h2.pe pa_nil hs2) hs) hs hpl) fun σ H R' ⟨F, ρ, S, R, he, hr, w', k⟩ => ?_⟩
  refine ⟨F, ρ, S, _, he, hr, w', fun t S1 v H1 e1 hr1 r1 q1 => ⟨F, ρ, S1, _, he.ev e1, hr1, q1, fun t2 S2 v2 H2 e2 hr2 r2 ⟨ts, ts2, h1, h2, q⟩ => ?_⟩⟩
  obtain ⟨us, l, f⟩ := src_of (r1.ev e2) h1
  obtain ⟨us2, l2, f2⟩ := src_of r2 h2
  exact ⟨v, v2, us, us2, rfl, f _ fun o ho g => f2 _ fun o2 ho2 g2 => k _ S2 H2 _ (e1.trans e2) hr2 (goes_zip l g l2 g2) q⟩
/-! ### constants of the module -/
theorem tx_gint {x : Str} {i : Int} {pos : Pos} (hg : Gl X x) (hm : ∃ t, X.mg x = some (.int i t)) (hd : (x == ("__debug__" : Str)) = false := by decide) : TX X (.Name x pos) (wC (.int i)) := by
  obtain ⟨t, hm⟩ := hm
  exact tx_glob (v := .int i) hg hm ⟨t, rfl⟩ (fun _ _ => .int i) hd
theorem tx_gstr {x : Str} {z : Str} {pos : Pos} (hg : Gl X x) (hm : ∃ t, X.mg x = some (.str z t)) (hd : (x == ("__debug__" : Str)) = false := by decide) : TX X (.Name x pos) (wC (.str z)) := by
  obtain ⟨t, hm⟩ := hm
  exact tx_glob (v := .str z) hg hm ⟨t, rfl⟩ (fun _ _ => .str z) hd
/-- ints, texts, bools, None -/
def scV : T → Option V
  | .non => some .non | .bl b => some (.bl b) | .int i => some (.int i) | .str z => some (.str z) | _ => none
theorem sc_rp {K : PySem.W.Frag} {H : Hp} {S : Sto} {t : T} {v : V} (e : scV t = some v) : Rp K H S t v := by
  cases t <;> simp [scV] at e <;> subst e
  · exact .non
  · exact .bl _
  · exact .int _
  · exact .str _
def ScsR : List T → List Value → Prop
  | [], [] => True
  | t :: ts, u :: us => (∃ v, scV t = some v ∧ RelV v u) ∧ ScsR ts us
  | _, _ => False
theorem scs_vals {K : PySem.W.Frag} {H : Hp} {S : Sto} : ∀ {ts : List T} {us : List Value}, ScsR ts us → ∃ vs, Vals vs us ∧ RpL K H S ts vs
  | [], [], _ => ⟨[], .nil, .nil⟩
  | [], _ :: _, h => h.elim
  | _ :: _, [], h => h.elim
  | t :: ts, u :: us, ⟨⟨v, e, r⟩, h⟩ => by
    obtain ⟨vs, a, b⟩ := scs_vals (K := K) (H := H) (S := S) h
    exact ⟨v :: vs, .cons r a, .cons (sc_rp e) b⟩
/-- the module's x is a written tuple of ints, texts, bools, Nones -/
def KTupS (K : PySem.W.Frag) (mg : Str → Option Value) (x : Str) (ts : List T) : Prop :=
  ∃ (a : Addr) (o : Obj) (its : Array Value) (n : Nat), mg x = some (.ref a) ∧ K.lookup a = some o ∧ o.cls = .type "tuple" ∧ o.data = .seq its n ∧ its.size ≤ sizeLine ∧ ScsR ts its.toList
def wInK (neg : Bool) (ts : List T) (w : WE) : WE := fun ρ S R => w ρ S fun x S1 => ∃ b, inO x ts = some b ∧ dpL ts ≤ 60 ∧ R (.bl (if neg then !b else b)) S1
theorem inK_op {op : CmpOp} {neg : Bool} {ts : List T} (ho : op = .In ∧ neg = false ∨ op = .NotIn ∧ neg = true) (hu : X.A.units + 64 < cLine) {a : Addr} {o : Obj} {its : Array Value} {n : Nat} (h1 : X.K.lookup a = some o) (h2 : o.cls = .type "tuple") (h3 : o.data = .seq its n) (h4 : its.size ≤ sizeLine) (h5 : ScsR ts its.toList) :
    OpR X (compareOp op) (fun v u H Q => u = .ref a ∧ ∃ (F S : Sto) (x : T) (R : Post) (b : Bool), HW X.K F H S ∧ RpF X.K F H S x v ∧ inO x ts = some b ∧ dpL ts ≤ 60 ∧ R (.bl (if neg then !b else b)) S ∧ ∀ t S' v' H', EvF X.K F H S H' S' → HW X.K F H' S' → RpF X.K F H' S' t v' → R t S' → Q v' H') := by
  intro pins s σ H v w u u' Q I ru rw' h
  obtain ⟨ew, F, S, x, R, b, hr, rx, e, hd, q, kk⟩ := h
  subst ew
  cases rw'
  obtain ⟨vs, rv, l1⟩ := scs_vals (K := X.K) (H := H) (S := mix S F) h5
  have hq : SqT X.K H a vs := .inr ⟨o, its, n, h1, h2, h3, h4, rv⟩
  obtain ⟨its2, rv2, p0, hl⟩ := I.tuple hq
  have p : s.heap.IsTuple a its2.toArray := p0
  have hlen : its2.length = ts.length := by rw [← rv2.length, l1.length]
  rcases ho with ⟨ho, hn⟩ | ⟨ho, hn⟩ <;> subst ho hn
  · exact SeqAt.in_tupleAt (hitV x ts its2) p (hit_at I hu rx ru l1 rv2 e hd) ⟨.bl b, H, I, by rw [hit_any hlen e]; rfl, kk _ S _ H Ev.refl hr (.bl _) q⟩
  · exact SeqAt.notIn_tupleAt (hitV x ts its2) p (hit_at I hu rx ru l1 rv2 e hd) ⟨.bl (!b), H, I, by rw [hit_any hlen e]; rfl, kk _ S _ H Ev.refl hr (.bl _) q⟩
section
variable {x : Str} {ts : List T} {e : Expr} {w : WE} {p pos : Pos}
theorem up_inK {neg : Bool} {a : Addr} {σ : L2.St} {H : Hp} {Q : VK} (h : up X.K (wInK neg ts w) σ H Q) : tOp (fun v u H Q => u = .ref a ∧ ∃ (F S : Sto) (x : T) (R : Post) (b : Bool), HW X.K F H S ∧ RpF X.K F H S x v ∧ inO x ts = some b ∧ dpL ts ≤ 60 ∧ R (.bl (if neg then !b else b)) S ∧ ∀ t S' v' H', EvF X.K F H S H' S' → HW X.K F H' S' → RpF X.K F H' S' t v' → R t S' → Q v' H') (up X.K w) (tC (.ref a)) σ H Q := by
  obtain ⟨F, ρ, S, R, he, hr, w', k⟩ := h
  refine ⟨F, ρ, S, _, he, hr, w', fun t S1 v H1 e1 hr1 r1 ⟨b, h1, h2, q⟩ => ?_⟩
  exact ⟨rfl, F, S1, t, R, b, hr1, r1, h1, h2, q, fun t' S' v' H' e2 hr2 r2 q2 => k t' S' v' H' (e1.trans e2) hr2 r2 q2⟩
theorem tx_inK (hu : X.A.units + 64 < cLine) (hg : Gl X x) (hk : KTupS X.K X.mg x ts) (h : TX X e w) (hd : (x == ("__debug__" : Str)) = false := by decide) (hm : behindInMarks .In (.Name x p) = false := by rfl) : TX X (.Compare e [.In] [.Name x p] pos) (wInK false ts w) := by
  obtain ⟨a, o, its, n, m, h1, h2, h3, h4, h5⟩ := hk
  exact ⟨PE.imp (pe_cmpR (inK_op (neg := false) (.inl ⟨rfl, rfl⟩) hu h1 h2 h3 h4 h5) h.pe (pe_glob (v := .ref a) hg m rfl hd) hm) fun σ H Q h => up_inK h⟩
theorem tx_notinK (hu : X.A.units + 64 < cLine) (hg : Gl X x) (hk : KTupS X.K X.mg x ts) (h : TX X e w) (hd : (x == ("__debug__" : Str)) = false := by decide) (hm : behindInMarks .NotIn (.Name x p) = false := by rfl) : TX X (.Compare e [.NotIn] [.Name x p] pos) (wInK true ts w) := by
  obtain ⟨a, o, its, n, m, h1, h2, h3, h4, h5⟩ := hk
  exact ⟨PE.imp (pe_cmpR (inK_op (neg := true) (.inr ⟨rfl, rfl⟩) hu h1 h2 h3 h4 h5) h.pe (pe_glob (v := .ref a) hg m rfl hd) hm) fun σ H Q h => up_inK h⟩
theorem tb_inK (hu : X.A.units + 64 < cLine) (hg : Gl X x) (hk : KTupS X.K X.mg x ts) (h : TX X e w) (hd : (x == ("__debug__" : Str)) = false := by decide) (hm : behindInMarks .In (.Name x p) = false := by rfl) : TB X (.Compare e [.In] [.Name x p] pos) (wTst (wInK false ts w)) := by
  obtain ⟨a, o, its, n, m, h1, h2, h3, h4, h5⟩ := hk
  exact ⟨PT.imp (pt_cmpR (inK_op (neg := false) (.inl ⟨rfl, rfl⟩) hu h1 h2 h3 h4 h5) h.pe (pe_glob (v := .ref a) hg m rfl hd) hm) fun σ H Q h => upB_tst (fun q => up_inK q) h⟩
theorem tb_notinK (hu : X.A.units + 64 < cLine) (hg : Gl X x) (hk : KTupS X.K X.mg x ts) (h : TX X e w) (hd : (x == ("__debug__" : Str)) = false := by decide) (hm : behindInMarks .NotIn (.Name x p) = false := by rfl) : TB X (.Compare e [.NotIn] [.Name x p] pos) (wTst (wInK true ts w)) := by
  obtain ⟨a, o, its, n, m, h1, h2, h3, h4, h5⟩ := hk
  exact ⟨PT.imp (pt_cmpR (inK_op (neg := true) (.inr ⟨rfl, rfl⟩) hu h1 h2 h3 h4 h5) h.pe (pe_glob (v := .ref a) hg m rfl hd) hm) fun σ H Q h => upB_tst (fun q => up_inK q) h⟩
end
/-- the module's x is a written dict from texts to ints, texts, .. -/
def EntsR : List DictEntry → List (Str × T) → Prop
  | [], [] => True
  | d :: ds, (k, t) :: kvs => ((∃ tk, d.key = .str k tk) ∧ ∃ v, scV t = some v ∧ RelV v d.val) ∧ EntsR ds kvs
  | _, _ => False
def lookS (z : Str) : List (Str × T) → Option T
  | [] => none
  | (k, t) :: kvs => if k = z then some t else lookS z kvs
def KDicS (K : PySem.W.Frag) (w : World) (mg : Str → Option Value) (x : Str) (kvs : List (Str × T)) : Prop :=
  ∃ (a : Addr) (es : Array DictEntry) (n : Nat), mg x = some (.ref a) ∧ K.lookup a = some ⟨.type "dict", none, .dict es n, #[]⟩ ∧ PySem.W.KeysLit w.params es.toList ∧ (a == sysModules) = false ∧ EntsR es.toList kvs
theorem ents_find {z : Str} : ∀ {ds : List DictEntry} {kvs : List (Str × T)}, EntsR ds kvs → match lookS z kvs with
    | some t => ∃ d v, ds.find? (fun d => Value.isStrOf z d.key) = some d ∧ scV t = some v ∧ RelV v d.val
    | none => ds.find? (fun d => Value.isStrOf z d.key) = none
  | [], [], _ => rfl
  | [], _ :: _, h => h.elim
  | _ :: _, [], h => h.elim
  | d :: ds, (k, t) :: kvs, ⟨⟨⟨tk, ek⟩, v, e, r⟩, h⟩ => by
    have ih := ents_find (z := z) h
    simp only [lookS]
    by_cases hk : k = z
    · subst hk
      rw [if_pos rfl]
      have hf : (fun d : DictEntry => Value.isStrOf k d.key) d = true := by
        show Value.isStrOf k d.key = true
        rw [ek]
        simp [Value.isStrOf]
      exact ⟨d, v, List.find?_cons_of_pos (p := fun d : DictEntry => Value.isStrOf k d.key) hf, e, r⟩
    · rw [if_neg hk]
      have hf : ¬ ((fun d : DictEntry => Value.isStrOf z d.key) d = true) := by
        show ¬ (Value.isStrOf z d.key = true)
        rw [ek]
        intro q
        simp [Value.isStrOf] at q
        first | exact hk q | exact hk q.symm
      have e2 := List.find?_cons_of_neg (p := fun d : DictEntry => Value.isStrOf z d.key) (l := ds) hf
      simp only [e2]
      exact ih
/-- get: the value, or None -/
def wKGet (kvs : List (Str × T)) (w : WE) : WE := fun ρ S R => w ρ S fun x S1 => ∃ z, x = .str z ∧ R ((lookS z kvs).getD .non) S1
theorem tx_kget {x : Str} {kvs : List (Str × T)} {e : Expr} {w : WE} {p apos pos : Pos} (hg : Gl X x) (hk : KDicS X.K X.w X.mg x kvs) (h : TX X e w) (m : M1 X (.Name x p) "get" apos e pos := by exact ⟨rfl, rfl, rfl, rfl⟩) (hd : (x == ("__debug__" : Str)) = false := by decide) :
    TX X (.Call (.Attribute (.Name x p) "get" apos) [e] [] pos) (wKGet kvs w) := by
  obtain ⟨a, es, n, m1, h1, h2, h3, h4⟩ := hk
  refine ⟨⟨fun pins s σ H Q I q => ?_⟩⟩
  refine wpAny_Call_method m.base m.few m.line PySem.F.plainAttrs_dict PySem.F.slot_dict_get PySem.F.type_dict_get (thn ((pe_glob (v := .ref a) hg m1 rfl hd).run pins s σ H (fun v H1 => v = .ref a ∧ H1 = H) I ⟨rfl, rfl⟩) fun u s1 ⟨v, H1, I1, rv, ev, eH⟩ => ?_)
  subst ev; subst eH
  cases rv
  have hm := PySem.W.mapOf_K (prog := X.prog) (w := X.w) I1.kIn h1 h2
  refine ⟨hm.typeIs, hm.noDict, ?_⟩
  rw [m.trees]
  obtain ⟨F, ρ, S, R, he, hr, w', k⟩ := q
  refine Calls.callWith_builtin rfl (Calls.evalArgs_plain (Calls.spliced_cons (thn (h.pe.run pins s1 σ _ (fun y H2 => ∃ z, y = .str z ∧ ∀ v', scV ((lookS z kvs).getD .non) = some v' → Q v' H2) I1 ⟨F, ρ, S, _, he, hr, w', fun t S1 v H1 e1 hr1 r1 ⟨z, ez, q1⟩ => ?_⟩) fun iv s2 ⟨y, H2, I2, ry, z, ez, q2⟩ => Calls.spliced_nil ?_)))
  · subst ez
    cases r1
    exact ⟨z, rfl, fun v' hv => k _ S1 v' H1 e1 hr1 (sc_rp hv) q1⟩
  · subst ez
    obtain ⟨t, rfl⟩ := ry
    have hm2 := PySem.W.mapOf_K (prog := X.prog) (w := X.w) I2.kIn h1 h2
    refine call_meetsIn PySem.F.slot_dict_get hm2.typeIs PySem.F.entry_dict_get (PySem.F.args_dict_get_2 _ _) (meets_dict_get (strKind X.prog X.w) a (strKind_is X.prog X.w z t) h3) ⟨_, hm2, ?_⟩
    have hf := ents_find (z := z) h4
    have hb : findBy Value.isStrOf es z = (es.toList.find? fun d => Value.isStrOf z d.key).map (·.val) := by
      unfold findBy
      rw [show es.find? (fun d => Value.isStrOf z d.key) = es.toList.find? (fun d => Value.isStrOf z d.key) from (Array.find?_toList).symm]
      first | done | (cases es.toList.find? (fun d => Value.isStrOf z d.key) <;> rfl)
    show wants _ _ (.ok (.ret ((findBy Value.isStrOf es z).getD .none))) _
    rw [hb]
    split at hf
    · next t0 hl =>
      obtain ⟨d, v', hd, hs, r⟩ := hf
      rw [hd]
      exact ⟨v', H2, I2.tok _, r, q2 v' (by rw [hl]; exact hs)⟩
    · next hl =>
      rw [hf]
      exact ⟨.non, H2, I2.tok _, rfl, q2 .non (by rw [hl]; rfl)⟩
/-! ### xs[::-1] -/
def wRevS (w : WE) : WE := fun ρ S R => w ρ S fun x S1 => (∃ ts, asL S1 x = some ts ∧ R (.lst ts.reverse) S1) ∨ ∃ ts, x = .tup ts ∧ R (.tup ts.reverse) S1
def wRevC (w : WE) : WE := fun ρ S R => w ρ S fun x S1 => ∃ ts, asL S1 x = some ts ∧ ∀ a, S1 a = none → R (.ref a) (supd S1 a (.lst ts.reverse))
section
variable {e : Expr} {w : WE} {k : Nat} {p1 p2 p3 pos : Pos}
theorem tx_revC (h : TX X e w) : TX X (.Subscript e (.Slice none none (some (.UnaryOp .USub (.Constant (.int 1) k p1) p2)) p3) pos) (wRevC w) := by
  refine ⟨PE.imp (pe_revL h.pe) fun σ H Q ⟨F, ρ, S, R, he, hr, w', k⟩ => ⟨F, ρ, S, _, he, hr, w', fun x S1 v H1 e1 hr1 r1 ⟨ts, h1, q⟩ => ?_⟩⟩
  obtain ⟨a, us, rfl, hs, l, z⟩ := asL_lst hr1 r1 h1
  refine ⟨a, us, rfl, .inl (.inl hs), fun p hp => ?_⟩
  have ev : EvF X.K F H1 S1 (upd H1 p (.lst us.reverse)) (supd S1 p (.lst ts.reverse)) := evf_new hr1 hp
  exact k (.ref p) _ _ _ (e1.trans ev) (hw_new hr1 hp ⟨by rw [List.length_reverse]; exact z, _, upd_same, (l.ev ev).reverse⟩) (.ref p) (q p (hr1.none hp))
end
/-! ### new dicts -/
def wNewK : WE := fun _ S R => ∀ a, S a = none → R (.ref a) (supd S a (.dK []))
def wNewT : WE := fun _ S R => ∀ a, S a = none → R (.ref a) (supd S a (.dT []))
theorem tx_newK {pos : Pos} : TX X (.Dict [] [] pos) wNewK := tx_dnewK
theorem tx_newT {pos : Pos} : TX X (.Dict [] [] pos) wNewT := tx_dnewT
/-! ### d.update(e) of dicts with int and text keys -/
def oUpdate : T → List T → Sto → Post → Prop := fun x xs S R => ∃ a b kvs more, x = .ref a ∧ xs = [.ref b] ∧ a ≠ b ∧ S a = some (.dK kvs) ∧ S b = some (.dK more) ∧ kvs.length + more.length ≤ sizeLine ∧ R .non (supd S a (.dK (mergeT kvs more)))
theorem mx_update : MtX X "dict.update" oUpdate := by
  refine ⟨fun v vs H Q => ∃ a b ks ms, v = .ref a ∧ vs = [.ref b] ∧ a ≠ b ∧ H a = some (.dK ks) ∧ H b = some (.dK ms) ∧ ks.length + ms.length ≤ sizeLine ∧ Q .non (upd H a (.dK (mergeK ks ms))), ?_, fun F H S x v xs vs R Q hr rx rxs ⟨a, b, kvs, more, e1, e2, ne, h1, h2, hz, q⟩ k => ?_⟩
  · intro pins s σ H x xs v us Q I rx rxs h
    obtain ⟨a, b, ks, ms, e1, e2, ne, h1, h2, hz, q⟩ := h
    subst e1; subst e2
    cases rx
    cases rxs with
    | cons ru rt =>
      cases rt
      cases ru
      obtain ⟨z1, hd1, v1, rel1, dd1⟩ := dk_of I.hok h1
      obtain ⟨z2, hd2, v2, rel2, dd2⟩ := dk_of I.hok h2
      refine call_meetsIn PySem.F.slot_dict_update dd1.typeIs PySem.F.entry_dict_update (PySem.F.args_dict_update_2 _ _) (meets_dict_update (mixKind X.prog X.w) a b ne hd2) ⟨v1, v2, dd1, dd2, by rw [← rel1.length, ← rel2.length]; exact hz, fun h' dd' _ hs => ?_⟩
      have he : ∃ q, h'.get? a = some q := let ⟨q, _, _, hq, _⟩ := dd'; ⟨q, hq⟩
      have hl : (mergeK ks ms).length ≤ sizeLine := Nat.le_trans (length_mergeK ms ks) hz
      exact ⟨.non, _, d_write (t' := s.toks) I (by rw [h1]; exact True.intro) hs he (dk_new hl hd1 (KV.merge rel2 rel1) dd'), rfl, q⟩
  · subst e1; subst e2
    cases rx
    cases rxs with
    | cons ry rt =>
      cases rt
      cases ry
      obtain ⟨us, g1, l1⟩ := hr.cell h1
      obtain ⟨ws, g2, l2⟩ := hr.cell h2
      have ev : EvF X.K F H S (upd H a (.dK (mergeK us ws))) (supd S a (.dK (mergeT kvs more))) := evf_cell hr (by rw [h1]; rfl)
      exact ⟨a, b, us, ws, rfl, rfl, ne, g1, g2, by rw [← RpK.length l1, ← RpK.length l2]; exact hz, k _ _ _ _ ev (hw_cell hr (by rw [h1]; rfl) ⟨_, upd_same, (merge_rel l2 l1).ev ev⟩) .non q⟩
/-! ### tuple(range(n)), list(range(n)) -/
def wTupleRng (w : WE) : WE := fun ρ S R => w ρ S fun x S1 => ∃ n : Int, x = .int n ∧ 0 ≤ n ∧ n ≤ 16777216 ∧ R (.tup (rngT 0 n.toNat)) S1
def wListRng (w : WE) : WE := fun ρ S R => w ρ S fun x S1 => ∃ n : Int, x = .int n ∧ 0 ≤ n ∧ n ≤ 16777216 ∧ R (.lst (rngT 0 n.toNat)) S1
def wListRngC (w : WE) : WE := fun ρ S R => w ρ S fun x S1 => ∃ n : Int, x = .int n ∧ 0 ≤ n ∧ n ≤ 16777216 ∧ ∀ a, S1 a = none → R (.ref a) (supd S1 a (.lst (rngT 0 n.toNat)))
theorem rng_len (lo : Int) (n : Nat) : (rngT lo n).length = n := by unfold rngT; rw [List.length_map, List.length_range]
theorem rg_rp {K : PySem.W.Frag} {H : Hp} {S : Sto} {n : Int} : RpL K H S (rngT 0 n.toNat) (rgV 0 n) := by
  have := rpl_rng (K := K) (H := H) (S := S) (lo := 0) (n := n.toNat)
  unfold rgV
  rw [Int.sub_zero]
  exact this
section
variable {a : Expr} {w : WE} {p p2 pos pos2 : Pos}
theorem tx_tupleRng (hg : Gl X "tuple") (hm : X.mg "tuple" = none) (hg2 : Gl X "range") (hm2 : X.mg "range" = none) (h : TX X a w) (hc : X.calm = true := by rfl) (na : starEach [a] X.env = (false, eval a X.env) :: starEach [] X.env := by rfl)
    (nb : starEach [.Call (.Name "range" p2) [a] [] pos2] X.env = (false, eval (.Call (.Name "range" p2) [a] [] pos2) X.env) :: starEach [] X.env := by rfl) : TX X (.Call (.Name "tuple" p) [.Call (.Name "range" p2) [a] [] pos2] [] pos) (wTupleRng w) := by
  refine ⟨PE.imp (pe_tupRg hc hg hm (prg_1 hg2 hm2 h.pe na) nb) fun σ H Q ⟨F, ρ, S, R, he, hr, w', k⟩ => ⟨F, ρ, S, _, he, hr, w', fun x S1 v H1 e1 hr1 r1 ⟨n, e, h1, h2, q⟩ => ?_⟩⟩
  subst e
  cases r1
  have hsl := sizeLine_eq
  exact ⟨n, rfl, RgOk.of_le (by omega) h2 (by omega) h1, fun p hp => k _ S1 _ _ (e1.trans (Ev.laid hp)) (hr1.laid hp) (.tup upd_same (by rw [rng_len]; omega) rg_rp) q⟩
theorem tx_listRng (hg : Gl X "list") (hm : X.mg "list" = none) (hg2 : Gl X "range") (hm2 : X.mg "range" = none) (h : TX X a w) (hc : X.calm = true := by rfl) (na : starEach [a] X.env = (false, eval a X.env) :: starEach [] X.env := by rfl)
    (nb : starEach [.Call (.Name "range" p2) [a] [] pos2] X.env = (false, eval (.Call (.Name "range" p2) [a] [] pos2) X.env) :: starEach [] X.env := by rfl) : TX X (.Call (.Name "list" p) [.Call (.Name "range" p2) [a] [] pos2] [] pos) (wListRng w) := by
  refine ⟨PE.imp (pe_listRg hc hg hm (prg_1 hg2 hm2 h.pe na) nb) fun σ H Q ⟨F, ρ, S, R, he, hr, w', k⟩ => ⟨F, ρ, S, _, he, hr, w', fun x S1 v H1 e1 hr1 r1 ⟨n, e, h1, h2, q⟩ => ?_⟩⟩
  subst e
  cases r1
  have hsl := sizeLine_eq
  exact ⟨n, rfl, RgOk.of_le (by omega) h2 (by omega) h1, fun p hp => k _ S1 _ _ (e1.trans (Ev.laid hp)) (hr1.laid hp) (.lst upd_same (hr1.2.none hp) (by rw [rng_len]; omega) rg_rp) q⟩
theorem tx_listRngC (hg : Gl X "list") (hm : X.mg "list" = none) (hg2 : Gl X "range") (hm2 : X.mg "range" = none) (h : TX X a w) (hc : X.calm = true := by rfl) (na : starEach [a] X.env = (false, eval a X.env) :: starEach [] X.env := by rfl)
    (nb : starEach [.Call (.Name "range" p2) [a] [] pos2] X.env = (false, eval (.Call (.Name "range" p2) [a] [] pos2) X.env) :: starEach [] X.env := by rfl) : TX X (.Call (.Name "list" p) [.Call (.Name "range" p2) [a] [] pos2] [] pos) (wListRngC w) := by
  refine ⟨PE.imp (pe_listRg hc hg hm (prg_1 hg2 hm2 h.pe na) nb) fun σ H Q ⟨F, ρ, S, R, he, hr, w', k⟩ => ⟨F, ρ, S, _, he, hr, w', fun x S1 v H1 e1 hr1 r1 ⟨n, e, h1, h2, q⟩ => ?_⟩⟩
  subst e
  cases r1
  have hsl := sizeLine_eq
  refine ⟨n, rfl, RgOk.of_le (by omega) h2 (by omega) h1, fun p hp => ?_⟩
  have ev : EvF X.K F H1 S1 (upd H1 p (.lst (rgV 0 n))) (supd S1 p (.lst (rngT 0 n.toNat))) := evf_new hr1 hp
  exact k (.ref p) _ _ _ (e1.trans ev) (hw_new hr1 hp ⟨by rw [rng_len]; omega, _, upd_same, rg_rp⟩) (.ref p) (q p (hr1.none hp))
end
/-! ### name = [..] on one line -/
section
variable {i : Nat} {y : Str} {py : Pos} {elt tgt iter : Expr} {ifs : List Expr} {scope : Scope} {own : List (Str × Nat)} {pos spos : Pos} {wi : WA} {tg : Tg} {tt : WB} {we : WE}
theorem ts_setLc (hc : X.calm = true) (hN : X.N.Nodup) (hy : X.N[i]? = some y) (hyl : X.env.scope.names.lookup y = some .local) (hsw : swapsWith (.ListComp elt [⟨tgt, iter, ifs, 0⟩] scope pos) (some (.Name y py)) spos.line X.env = pure true) (hi : TIt X tgt iter wi) (ok : BlkOk X.N X.env.scope scope own)
    (hg : ∀ (s : Shared) (H : Hp) (C : Addr) (cl : List (Str × Addr)) (fp : List Addr), PG (X.blk s H scope (compEnvC scope cl C X.env) fp) tgt (tg.tg X.K)) (ht : ∀ (s : Shared) (H : Hp) (C : Addr) (cl : List (Str × Addr)) (fp : List Addr), TBs (X.blk s H scope (compEnvC scope cl C X.env) fp) ifs tt)
    (he : ∀ (s : Shared) (H : Hp) (C : Addr) (cl : List (Str × Addr)) (fp : List Addr), TX (X.blk s H scope (compEnvC scope cl C X.env) fp) elt we) (hv : ∀ i ∈ tg.vars, i ∈ own.map (·.2) := by decide) (hs : ∀ x, foldedSetIterable iter X.env x = pure x := by intro _; rfl) :
    TSt X (.Assign [.Name y py] (.ListComp elt [⟨tgt, iter, ifs, 0⟩] scope pos) spos) (sSet i (wLc wi tg tt we (own.map (·.2)))) :=
  ⟨PS.imp (ps_setLc hc hN hy hyl hsw hi.pi ok hg (fun s H C cl fp => (ht s H C cl fp).pts) (fun s H C cl fp => (he s H C cl fp).pe) hs) fun D σ H ⟨F, ρ, S, E, he, hr, w', l⟩ =>
    lc_up hv he hr w' fun acc S' H' Dd e h sD fD q =>
      let ⟨a, b, c⟩ := fr_lst h sD fD
      l.nx _ S' _ H' (e.trans a) b ((he.ev (e.trans a)).set c i) q⟩
theorem ts_setLcC (hc : X.calm = true) (hN : X.N.Nodup) (hy : X.N[i]? = some y) (hyl : X.env.scope.names.lookup y = some .local) (hsw : swapsWith (.ListComp elt [⟨tgt, iter, ifs, 0⟩] scope pos) (some (.Name y py)) spos.line X.env = pure true) (hi : TIt X tgt iter wi) (ok : BlkOk X.N X.env.scope scope own)
    (hg : ∀ (s : Shared) (H : Hp) (C : Addr) (cl : List (Str × Addr)) (fp : List Addr), PG (X.blk s H scope (compEnvC scope cl C X.env) fp) tgt (tg.tg X.K)) (ht : ∀ (s : Shared) (H : Hp) (C : Addr) (cl : List (Str × Addr)) (fp : List Addr), TBs (X.blk s H scope (compEnvC scope cl C X.env) fp) ifs tt)
    (he : ∀ (s : Shared) (H : Hp) (C : Addr) (cl : List (Str × Addr)) (fp : List Addr), TX (X.blk s H scope (compEnvC scope cl C X.env) fp) elt we) (hv : ∀ i ∈ tg.vars, i ∈ own.map (·.2) := by decide) (hs : ∀ x, foldedSetIterable iter X.env x = pure x := by intro _; rfl) :
    TSt X (.Assign [.Name y py] (.ListComp elt [⟨tgt, iter, ifs, 0⟩] scope pos) spos) (sSet i (wLcC wi tg tt we (own.map (·.2)))) :=
  ⟨PS.imp (ps_setLc hc hN hy hyl hsw hi.pi ok hg (fun s H C cl fp => (ht s H C cl fp).pts) (fun s H C cl fp => (he s H C cl fp).pe) hs) fun D σ H ⟨F, ρ, S, E, he, hr, w', l⟩ =>
    lc_up hv he hr w' fun acc S' H' Dd e h sD fD q => by
      have ev : Ev X.K H (mix S F) H' (mix (supd S' Dd (.lst acc)) F) := by rw [← fr_cell sD fD]; exact e
      exact l.nx _ _ _ H' ev ⟨(h.1.unfr).supd fD, by rw [← fr_cell sD fD]; exact h.2⟩ ((he.ev ev).set (.ref Dd) i) (q Dd sD)⟩
end
/-! ### f(k = v, ..) -/
structure TKw (X : Cx) (kws : List Keyword) (w : WA) : Prop where
  pk : PK X kws (upA X.K w)
theorem PK.imp {kws : List Keyword} {t t' : TA} (h : PK X kws t) (f : ∀ σ H Q, t' σ H Q → t σ H Q) : PK X kws t' := ⟨fun p pins s σ H Q I q => h.run p pins s σ H Q I (f _ _ _ q)⟩
theorem tk_nil : TKw X [] wNil := ⟨PK.imp pk_nil fun σ H Q ⟨F, ρ, S, R, he, hr, w', k⟩ => k [] S [] H Ev.refl hr .nil w'⟩
theorem tk_cons {nm : Option Str} {e : Expr} {kpos : Pos} {kws : List Keyword} {w : WE} {ws : WA} (ha : TX X e w) (hs : TKw X kws ws) : TKw X (⟨nm, e, kpos⟩ :: kws) (wCons w ws) :=
  ⟨PK.imp (pk_cons ha.pe hs.pk) fun σ H Q ⟨F, ρ, S, R, he, hr, w', k⟩ => ⟨F, ρ, S, _, he, hr, w', fun x S1 v H1 e1 hr1 r1 h1 =>
    ⟨F, ρ, S1, _, he.ev e1, hr1, h1, fun xs S2 vs H2 e2 hr2 r2 h2 => k _ S2 _ H2 (e1.trans e2) hr2 (.cons (r1.ev e2) r2) h2⟩⟩⟩
/-- how keywords bind: the i-th parameter takes the perm[i]-th keyword's value -/
def permG {α : Type} (perm : List Nat) (ws : List α) : List α := perm.filterMap (ws[·]?)
structure DefK (P : Program) (W : World) (K : PySem.W.Frag) (mg : Str → Option Value) (base : Heap) (x : Str) (ps ks : List Str) (perm : List Nat) (k : Nat) (w : List T → Sto → Post → Prop) : Prop where
  ex : ∃ f fd, FnOk P W K mg base CX0 k f fd ps (spT K w) ∧ mg x = some (.ref f) ∧ PySem.W.keepIn K (.ref f) = true ∧ ∀ (s : Shared) (ws : List Value), ws.length = ps.length → BindsTo s fd ⟨[], ks.zip ws⟩ (ps.zip (permG perm ws))
theorem DefK.mono {P : Program} {W : World} {K : PySem.W.Frag} {mg : Str → Option Value} {base : Heap} {x : Str} {ps ks : List Str} {perm : List Nat} {j k : Nat} {w : List T → Sto → Post → Prop} (d : DefK P W K mg base x ps ks perm j w) (h : j ≤ k) : DefK P W K mg base x ps ks perm k w := by
  obtain ⟨f, fd, a, b, c, e⟩ := d.ex
  exact ⟨f, fd, a.mono h, b, c, e⟩
def wCallKw (perm : List Nat) (n : Nat) (w : List T → Sto → Post → Prop) (ws : WA) : WE := fun ρ S R => ws ρ S fun xs S1 => xs.length = n ∧ w (permG perm xs) S1 R
theorem perm_vals {K : PySem.W.Frag} {H : Hp} {S : Sto} {perm : List Nat} {xs : List T} {vs : List V} (r : RpL K H S xs vs) : RpL K H S (permG perm xs) (permG perm vs) := by
  unfold permG
  induction perm with
  | nil => exact .nil
  | cons i perm ih =>
    rw [List.filterMap_cons, List.filterMap_cons]
    cases h : xs[i]? with
    | none =>
      have : vs[i]? = none := by
        rw [List.getElem?_eq_none_iff] at h ⊢
        rw [← r.length]; exact h
      rw [this]
      exact ih
    | some t =>
      obtain ⟨v, hv, rv⟩ := r.get' h
      rw [hv]
      exact .cons rv ih
theorem perm_rel {perm : List Nat} {vs : List V} {us : List Value} (r : Vals vs us) : Vals (permG perm vs) (permG perm us) := by
  unfold permG
  induction perm with
  | nil => exact .nil
  | cons i perm ih =>
    rw [List.filterMap_cons, List.filterMap_cons]
    cases h : vs[i]? with
    | none => rw [r.none_of h]; exact ih
    | some t =>
      obtain ⟨v, hv, rv⟩ := r.get h
      rw [hv]
      exact .cons rv ih
theorem tx_callKw {x : Str} {ps ks : List Str} {perm : List Nat} {k : Nat} {w : List T → Sto → Post → Prop} {kws : List Keyword} {ws : WA} {p pos : Pos} {n : Nat} (D : DefK X.prog X.w X.K X.mg X.base x ps ks perm k w) (hr : Room k X.A) (hg : Gl X x) (ha : TKw X kws ws) (hlen : ps.length = n := by rfl)
    (hall : (backToKw pos (keywordEach kws X.env)).all (·.1.isSome) = true := by rfl) (hks : (backToKw pos (keywordEach kws X.env)).filterMap (·.1) = ks := by rfl) (hdb : (x == ("__debug__" : Str)) = false := by decide)
    (hpl : ((backTo pos (starEach [] X.env)).any (·.1) || (backToKw pos (keywordEach kws X.env)).any (·.1.isNone)) = false := by rfl) : TX X (.Call (.Name x p) [] kws pos) (wCallKw perm n w ws) := by
  subst hlen
  obtain ⟨f, fd, F, m, kp, hb⟩ := D.ex
  refine ⟨⟨fun pins s σ H Q I ⟨Fr, ρ, S, R, he, hr1, w', kk⟩ => ?_⟩⟩
  refine wpAny_Call_Name_kw (ld_glob I hg m ?_ hdb)
  refine PySem.W.callWith_KW0 (h₀ := X.base) I.ok.mod.kin kp hall (thn (ha.pk.run pos pins s σ H (fun vs H1 => vs.length = ps.length ∧ spT X.K w (permG perm vs) H1 Q E0) I ⟨Fr, ρ, S, _, he, hr1, w', fun xs S1 vs H1 e1 hr2 r1 ⟨hn, q⟩ => ?_⟩) fun us s2 ⟨vs, H2, I2, rz, hn, q2⟩ => ⟨I2.kIn, ?_⟩) hpl
  · exact ⟨by rw [← r1.length]; exact hn, Fr, permG perm xs, S1, R, perm_vals r1, hr2, q, fun t S' v H' e2 hr3 r3 q3 => kk t S' v H' (e1.trans e2) hr3 r3 q3⟩
  · rw [hks]
    have r2 := perm_rel (perm := perm) rz
    refine wpAny_call (codeAny_mono (F.run X.A X.stack s2 H2 ⟨[], ks.zip us⟩ (permG perm us) (permG perm vs) Q E0 hr I2.env0 (hb s2 us (by rw [← rz.length]; exact hn)) r2 q2) fun r s' hq => ?_)
    cases r with
    | error e => exact pass0 pins σ H2 s2 e s' I2 hq
    | ok fl =>
      cases fl with
      | ret u => exact I2.after hq
      | next => exact False.elim hq
      | brk => exact False.elim hq
      | cont => exact False.elim hq
/-! ### a tuple with one item, many times -/
theorem pgt {es : List Expr} {k : Nat} {pos : Pos} {ts : Tgs} (hc : X.calm = true) (h : PGs X es (ts.tgs X.K)) (hn : (assignEach es X.env).length = ts.len := by rfl) (hst : (assignEach es X.env).findIdx? (·.1) = none := by rfl) : PG X (.Tuple es k pos) ((Tg.tp ts).tg X.K) := pg_tup hc h hn hst
end
end TL

set_option Elab.async false
set_option linter.all false
set_option maxRecDepth 100000
set_option maxHeartbeats 4000000
/-! TL10: a short tuple many times. -/
namespace TL
open PySem L2 PyProof.Rows
def oMulT : T → T → Sto → Post → Prop := fun x y S R => ∃ xs k, x = .tup xs ∧ y = .int k ∧ xs ≠ [] ∧ 2 ≤ k ∧ k ≤ 10000 ∧ xs.length ≤ 100 ∧ R (.tup (List.replicate k.toNat xs).flatten) S
theorem repT_wide {X : Cx} : OpR X (binaryOp .Mult) (fun x y H Q => ∃ l k xs, x = .ref l ∧ y = .int k ∧ SqT X.K H l xs ∧ xs ≠ [] ∧ 2 ≤ k ∧ k ≤ 10000 ∧ xs.length ≤ 100 ∧ ∀ p, H p = none → Q (.ref p) (upd H p (.tup (List.replicate k.toNat xs).flatten))) := by
  intro pins s σ H x y v u Q I rx ry h
  obtain ⟨l, k, xs, rfl, rfl, hT, hne, h1, h2, hz, q⟩ := h
  cases rx
  obtain ⟨t, rfl⟩ := ry
  obtain ⟨its, r, ⟨⟨cls, dd, data, sl⟩, ho, hc, n, hd⟩, hs⟩ := I.tuple hT
  simp only at hc hd
  subst hc hd
  have hle : its.length = xs.length := r.length.symm
  have hi : its.toArray.isEmpty = false := by
    cases its with
    | nil => exact absurd (List.eq_nil_of_length_eq_zero hle.symm) hne
    | cons a b => rfl
  have hsz0 : its.toArray.size = xs.length := by rw [List.size_toArray, hle]
  have bnd : k.toNat * xs.length ≤ 10000 * 100 := Nat.mul_le_mul (by omega) hz
  have hm : ((its.toArray.size : Nat) : Int) * k ≤ 1000000 := by
    rw [hsz0]
    have a1 : ((xs.length : Nat) : Int) * k ≤ 100 * k := Int.mul_le_mul_of_nonneg_right (by omega) (by omega)
    omega
  have flen : (List.replicate k.toNat its).flatten.length ≤ sizeLine := by
    rw [PyProof.Rows.lm_len_rep_flat, hle, sizeLine_eq]
    omega
  have c0 : (decide (k < -(2 ^ 63)) || decide (k ≥ 2 ^ 63)) = false := by
    rw [decide_eq_false (by omega), decide_eq_false (by omega)] <;> rfl
  have c1 : (its.toArray.isEmpty || k == 1) = false := by
    rw [hi, Bool.false_or]
    exact beq_eq_false_iff_ne.mpr (by omega)
  have c2 : (decide (k ≤ 0) || its.toArray.isEmpty) = false := by
    rw [hi, Bool.or_false]
    exact decide_eq_false (by omega)
  have c4 : Builtin.Tuple.tupleTooMany (((its.toArray.size : Nat) : Int) * k) = false := by
    unfold Builtin.Tuple.tupleTooMany
    rw [sizeLine_eq]
    exact decide_eq_false (by omega)
  refine wpAny_binaryOp_repeat_ref (T := "tuple") (U := "int") (by decide) ⟨_, ho, rfl⟩ (fun s' => typeIs_int s' k t) noFill_tuple_mul F.fills_int_mul F.slot_int_rmul repeat_tuple F.slot_int_index.lookup
    (call_meets F.slot_int_rmul (typeIs_int s k t) F.entry_int_rmul (F.args_int_rmul_2 _ _) (int_rmul_tuple k t l its.toArray n dd sl)
      ⟨ho, rfl, ⟨_, ho, rfl⟩, call_meets F.slot_tuple_mul ⟨_, ho, rfl⟩ F.entry_tuple_mul (F.args_tuple_mul_2 _ _) (tuple_mulW l its.toArray n dd sl k t c0 c1 c2 (by omega) c4 (by rw [size_rep, List.size_toArray]; exact flen)) ⟨ho, ?_⟩⟩)
  rw [size_rep]
  refine ⟨.ref s.heap.objs.size, _, I.laid (t' := s.toks) (o := .tup (List.replicate k.toNat xs).flatten) (fun b ob q => Heap.get?_push_of_some _ q) (Nat.le_refl _) ?_, rfl, q _ (I.hok.fresh (Nat.le_refl _))⟩
  exact ⟨by rw [PyProof.Rows.lm_len_rep_flat, sizeLine_eq]; omega, _, r.rep k.toNat, IsTup.new _ _⟩
theorem ox_mulT {X : Cx} : OpX X (binaryOp .Mult) oMulT := ⟨_, repT_wide, fun F H S x y v u R Q hr rx ry ⟨xs, k, e1, e2, h1, h2, h3, h4, q⟩ kk => by
  subst e1; subst e2
  cases ry
  cases rx with
  | tup s z l =>
    refine ⟨_, k, _, rfl, rfl, .inl (.inl s), ?_, h2, h3, by rw [← l.length]; exact h4, fun p hp => kk _ S _ _ (Ev.laid hp) (hr.laid hp) (.tup upd_same ?_ ((l.rep _).ev (Ev.laid hp))) q⟩
    · intro e
      subst e
      cases l
      exact h1 rfl
    · rw [len_rep, sizeLine_eq]
      have : xs.length * k.toNat ≤ 100 * 10000 := Nat.mul_le_mul h4 (by omega)
      omega⟩
/-- xs + ys, the new list a cell -/
def oAddC : T → T → Sto → Post → Prop := fun x y S R => ∃ a b, asL S x = some a ∧ asL S y = some b ∧ a.length + b.length ≤ sizeLine ∧ ∀ p, S p = none → R (.ref p) (supd S p (.lst (a ++ b)))
theorem ox_addC {X : Cx} : OpX X (binaryOp .Add) oAddC :=
  ⟨_, op_cat, fun F H S x y v u R Q hr rx ry ⟨a, b, h1, h2, z, q⟩ k => by
    obtain ⟨p1, us1, rfl, e1, l1, z1⟩ := asL_lst hr rx h1
    obtain ⟨p2, us2, rfl, e2, l2, z2⟩ := asL_lst hr ry h2
    refine ⟨p1, p2, us1, us2, rfl, rfl, e1, e2, by rw [← l1.length, ← l2.length]; exact z, fun p hp => ?_⟩
    have ev : EvF X.K F H S (upd H p (.lst (us1 ++ us2))) (supd S p (.lst (a ++ b))) := evf_new hr hp
    exact k (.ref p) _ _ _ ev (hw_new hr hp ⟨by rw [List.length_append]; exact z, _, upd_same, (l1.append l2).ev ev⟩) (.ref p) (q p (hr.none hp))⟩
/-- a def of which nothing is promised -/
theorem fn_false {P : Program} {W : World} {K : PySem.W.Frag} {mg : Str → Option Value} {base : Heap} {x qual : Str} {st : Stmt} {f : Addr} {fd : FuncData} {N ps : List Str} {k : Nat} (Fn : Fun K x qual st f fd) (Sc : FnScope N ps (defScope st)) : FnOk P W K mg base CX0 (k + 1) f fd ps (spT K fun _ _ _ => False) :=
  Fn.ok Sc (fun vs H Q E ⟨F, ts, S, R, r, hr, w', k⟩ => w'.elim) fun cdv A outer s H vs Q E hr ⟨F, ts, S, R, r, hw, w', k⟩ => w'.elim
/-! ### t[::-1] of a tuple -/
theorem fm_congr {α β : Type} {f g : α → Option β} : ∀ {l : List α}, (∀ x ∈ l, f x = g x) → l.filterMap f = l.filterMap g
  | [], _ => rfl
  | x :: l, h => by
    rw [List.filterMap_cons, List.filterMap_cons, h x (List.mem_cons_self ..), fm_congr fun y hy => h y (List.mem_cons_of_mem _ hy)]
theorem rev_pick (xs : Array Value) : ((List.range xs.size).filterMap fun (m : Nat) => xs[(((xs.size : Nat) : Int) - 1 + (m : Int) * (-1)).toNat]?) = xs.toList.reverse := by
  have h : ((List.range xs.size).filterMap fun (m : Nat) => xs[(((xs.size : Nat) : Int) - 1 + (m : Int) * (-1)).toNat]?) = (List.range xs.size).filterMap (fun m => some (xs.toList.reverse.getD m .none)) := by
    apply fm_congr
    intro m hm
    have hm' : m < xs.size := List.mem_range.mp hm
    have e : (((xs.size : Nat) : Int) - 1 + (m : Int) * (-1)).toNat = xs.size - 1 - m := by omega
    rw [e]
    have h1 : xs.size - 1 - m < xs.size := by omega
    have h2 : m < xs.toList.reverse.length := by simpa using hm'
    rw [List.getD_eq_getElem?_getD, List.getElem?_eq_getElem h2, Array.getElem?_eq_getElem h1]
    simp
  have h3 : (List.range xs.size).filterMap (fun m => some (xs.toList.reverse.getD m .none)) = (List.range xs.size).map fun m => xs.toList.reverse.getD m .none := by
    rw [← List.filterMap_eq_map]; rfl
  rw [h, h3]
  apply List.ext_getElem?
  intro i
  rw [List.getElem?_map]
  by_cases hi : i < xs.size
  · rw [List.getElem?_range hi]
    have h2 : i < xs.toList.reverse.length := by simpa using hi
    simp only [Option.map_some]
    rw [List.getD_eq_getElem?_getD, List.getElem?_eq_getElem h2]
    rfl
  · rw [List.getElem?_eq_none (by simpa using hi)]
    rw [List.getElem?_eq_none (by simpa using hi)]
    rfl
theorem sliceApplied_rev {prog : Program} {w : World} {A : Around} {E : Value → Shared → Prop} {s : Shared} {sl : Addr} {vl vu vs : Value} {n : Nat} {Q : Int × Int × Nat → Shared → Prop} (hs : s.heap.IsSliceOf sl vl vu vs) (pl : IsPart vl none) (pu : IsPart vu none) (ps : IsPart vs (some (-1)))
    (h : Q ((n : Int) - 1, -1, n) s) : wpAny (model prog w) A (Builtin.Slice.sliceApplied (.ref sl) (pure (n : Int))) Q E s := by
  obtain ⟨os, hos, hcs, hds⟩ := id hs
  unfold Builtin.Slice.sliceApplied Builtin.Slice.sliceFields
  refine wpAny_bind (wpAny_bind (wpAny_field hos hds (x := vl) rfl (wpAny_bind (wpAny_field hos hds (x := vu) rfl (wpAny_bind (wpAny_field hos hds (x := vs) rfl (wpAny_pure ?_)))))))
  refine wpAny_bind (HT.slicePart_ ps ?_)
  show wpAny _ _ (if ((-1 : Int) == 0) = true then _ else _) _ _ s
  rw [if_neg (by decide)]
  refine wpAny_bind (HT.slicePart_ pl (wpAny_bind (HT.slicePart_ pu (wpAny_bind (wpAny_pure ?_)))))
  show wpAny _ _ (match Builtin.Slice.sliceAdjust none none (-1) (n : Int) with | (lo, hi) => pure (lo, (-1 : Int), Builtin.Slice.slicePlaces lo hi (-1))) _ _ s
  have e : Builtin.Slice.sliceAdjust none none (-1) (n : Int) = ((n : Int) - 1, -1) := by
    unfold Builtin.Slice.sliceAdjust
    simp
  rw [e]
  show wpAny _ _ (pure ((n : Int) - 1, (-1 : Int), Builtin.Slice.slicePlaces ((n : Int) - 1) (-1) (-1))) _ _ s
  have e2 : Builtin.Slice.slicePlaces ((n : Int) - 1) (-1) (-1) = n := by
    unfold Builtin.Slice.slicePlaces
    have h1 : ¬ ((-1 : Int) > 0) := by omega
    simp only [h1, if_false]
    rw [show ((n : Int) - 1 - -1 - 1) / - -1 = (n : Int) - 1 by rw [show (- -1 : Int) = 1 by decide, Int.ediv_one]; omega]
    split <;> omega
  rw [e2]
  exact wpAny_pure h
open HT in
theorem getItem_tuple_rev {prog : Program} {w : World} {A : Around} {E : Value → Shared → Prop} {s : Shared} {t sl : Addr} {items : Array Value} {vl vu vs : Value} {Q : Value → Shared → Prop} (ht : IsTup s.heap t items) (hs : s.heap.IsSliceOf sl vl vu vs) (pl : IsPart vl none) (pu : IsPart vu none) (ps : IsPart vs (some (-1)))
    (h : Q (.ref s.heap.objs.size) { s with heap := s.heap.push { cls := .type "tuple", data := .seq items.toList.reverse.toArray } }) (hsz : items.size ≤ sizeLine) : wpAny (model prog w) A (getItem (.ref t) (.ref sl)) Q E s := by
  have htake : sizeOk (.seq items.toList.reverse.toArray) := by
    show items.toList.reverse.toArray.size ≤ sizeLine
    simpa using hsz
  obtain ⟨os, hos, hcs, hds⟩ := id hs
  have hTs : s.TypeIs (.ref sl) "slice" := ⟨os, hos, hcs⟩
  unfold getItem
  try with_reducible refine wpAny_holding ?_
  first | refine wpAny_bind (wpAny_pure ?_) | skip
  refine wpAny_bind (wpAny_sequenceKey ht.typeIs (by decide) ?_)
  refine wpAny_bind (wpAny_callSpecial?_slot (name := Str.ofString "__getitem__") ht.typeIs PyProof.Rows.slot_tuple_getitem
    (wpAny_call_entry PyProof.Rows.slot_tuple_getitem ht.typeIs entry_tuple_getitem ?_ (args_tuple_getitem _ _)))
  show wpAny _ _ (Builtin.Tuple.tupleItemsOf (.ref t) >>= _) _ _ s
  refine wpAny_bind (tupleItemsOf_ ht ?_)
  refine wpAny_bind (wpAny_typeOf hTs ?_)
  rw [if_pos (by decide)]
  refine wpAny_bind (sliceApplied_rev hs pl pu ps ?_)
  have hno : ¬ ((((items.size : Nat) : Int) - 1 == 0 && (-1 : Int) == 1 && items.size == items.size) = true) := by
    intro q
    rw [Bool.and_eq_true, Bool.and_eq_true] at q
    exact absurd q.1.2 (by decide)
  show wpAny _ _ (if (((items.size : Nat) : Int) - 1 == 0 && (-1 : Int) == 1 && items.size == items.size) = true then _ else _) _ _ s
  rw [if_neg hno, rev_pick]
  first
    | exact wpAny_bind (m := Builtin.Tuple.tupleExact _) (wpAny_newObj_type (wpAny_pure ⟨_, rfl, wpAny_pure h⟩) htake)
    | exact wpAny_bind (m := Builtin.Tuple.tupleExact _) (wpAny_newObj_type (wpAny_bind (wpAny_pure (wpAny_pure ⟨_, rfl, wpAny_pure h⟩))) htake)
    | exact wpAny_bind (wpAny_bind (m := Builtin.Tuple.tupleExact _) (wpAny_newObj_type (wpAny_pure (wpAny_pure ⟨_, rfl, wpAny_pure h⟩)) htake))
    | exact wpAny_bind (wpAny_bind (m := Builtin.Tuple.tupleExact _) (wpAny_newObj_type (wpAny_pure ⟨_, rfl, wpAny_pure h⟩) htake))
def tRevA (K : PySem.W.Frag) (te : TE) : TE := fun σ H Q => te σ H fun x H1 => ∃ a xs, x = .ref a ∧ ((SqL K H1 a xs ∧ ∀ p, H1 p = none → Q (.ref p) (upd H1 p (.lst xs.reverse))) ∨ (SqT K H1 a xs ∧ ∀ p, H1 p = none → Q (.ref p) (upd H1 p (.tup xs.reverse))))
theorem pe_revA {X : Cx} {e : Expr} {te : TE} {k : Nat} {p1 p2 p3 pos : Pos} (he : PE X e te) : PE X (.Subscript e (.Slice none none (some (.UnaryOp .USub (.Constant (.int 1) k p1) p2)) p3) pos) (tRevA X.K te) := by
  refine ⟨fun pins s σ H Q I h => ?_⟩
  refine Subscript_ (thn (he.run pins s σ H _ I h) fun v s1 ⟨x, H1, I1, r1, q1⟩ => ?_)
  obtain ⟨a, xs, ex, q⟩ := q1
  subst ex
  cases r1
  have hst : PO X (some (.UnaryOp .USub (.Constant (.int 1) k p1) p2)) (tPart (tUn (rU fun i => .int (-i)) (tC (.int 1)))) := po_some (pe_un un_neg pe_int)
  refine wpAny_Slice (thn (po_none.run pins s1 σ H1 (fun o H2 => o = none ∧ H2 = H1) I1 ⟨rfl, rfl⟩) fun vl s2 ⟨l, H2, I2, pl, el, e2⟩ => ?_)
  subst el e2
  refine thn (po_none.run pins s2 σ H2 (fun o H3 => o = none ∧ H3 = H2) I2 ⟨rfl, rfl⟩) fun vu s3 ⟨u, H3, I3, pu, eu, e3⟩ => ?_
  subst eu e3
  refine thn (hst.run pins s3 σ H3 (fun o H4 => o = some (-1) ∧ H4 = H3) I3 ⟨1, rfl, -1, rfl, rfl, rfl⟩) fun vs s4 ⟨o, H4, I4, ps, eo, e4⟩ => ?_
  subst eo e4
  have I5 : Inv X pins σ H4 { s4 with heap := s4.heap.push { cls := .type "slice", data := .fields #[vl, vu, vs] } } := I4.kept (t' := s4.toks) fun b ob q => Heap.get?_push_of_some _ q
  show wpAny (model X.prog X.w) X.A (subscriptTail e (.Slice none none (some (.UnaryOp .USub (.Constant (.int 1) k p1) p2)) p3) (.ref a) (.ref s4.heap.objs.size)) (EP X pins σ Q) X.xe { s4 with heap := s4.heap.push { cls := .type "slice", data := .fields #[vl, vu, vs] } }
  rcases q with ⟨hx, q⟩ | ⟨hx, q⟩
  · obtain ⟨its, r, ht, hz⟩ := I5.list hx
    have hlen := r.length
    refine tail_any (ops := [.ref a, .ref s4.heap.objs.size]) ht.isList.typeIs (PySem.slot_list_getitem.lookup) ?_ (by with_unfolding_all rfl)
    refine wpAny_getItem_list_slice ht.isList (Heap.IsSliceOf.new _ vl vu vs) pl pu ps (by decide) ?_ (by rw [List.size_toArray]; omega)
    rw [PySem.W.krv_pick]
    refine ⟨.ref _, _, I5.laid (t' := s4.toks) (o := .lst xs.reverse) (fun b ob q => Heap.get?_push_of_some _ q) (Nat.le_refl _) ?_, rfl, q _ (I5.hok.fresh (Nat.le_refl _))⟩
    exact ⟨by rw [List.length_reverse]; exact hz, _, 0, r.reverse, Heap.get?_push_size _ rfl⟩
  · obtain ⟨its, r, ht, hz⟩ := I5.tuple hx
    have hlen := r.length
    refine tail_any (ops := [.ref a, .ref s4.heap.objs.size]) (show Shared.TypeIs _ (.ref a) "tuple" from ht.typeIs) (PyProof.Rows.slot_tuple_getitem.lookup) ?_ (by with_unfolding_all rfl)
    refine getItem_tuple_rev ht (Heap.IsSliceOf.new _ vl vu vs) pl pu ps ?_ (by rw [List.size_toArray]; omega)
    refine ⟨.ref _, _, I5.laid (t' := s4.toks) (o := .tup xs.reverse) (fun b ob q => Heap.get?_push_of_some _ q) (Nat.le_refl _) ?_, rfl, q _ (I5.hok.fresh (Nat.le_refl _))⟩
    exact ⟨by rw [List.length_reverse]; exact hz, _, r.reverse, IsTup.new _ _⟩
theorem tx_revS {X : Cx} {e : Expr} {w : WE} {k : Nat} {p1 p2 p3 pos : Pos} (h : TX X e w) : TX X (.Subscript e (.Slice none none (some (.UnaryOp .USub (.Constant (.int 1) k p1) p2)) p3) pos) (wRevS w) := by
  refine ⟨PE.imp (pe_revA h.pe) fun σ H Q ⟨F, ρ, S, R, he, hr, w', k⟩ => ⟨F, ρ, S, _, he, hr, w', fun x S1 v H1 e1 hr1 r1 h1 => ?_⟩⟩
  rcases h1 with ⟨ts, h1, q⟩ | ⟨ts, e, q⟩
  · obtain ⟨a, us, rfl, hs, l, z⟩ := asL_lst hr1 r1 h1
    refine ⟨a, us, rfl, .inl ⟨.inl (.inl hs), fun p hp => ?_⟩⟩
    exact k _ S1 _ _ (e1.trans (Ev.laid hp)) (hr1.laid hp) (.lst upd_same (hr1.2.none hp) (by rw [List.length_reverse]; exact z) ((l.ev (Ev.laid hp)).reverse)) q
  · subst e
    cases r1 with
    | tup a z l => exact ⟨_, _, rfl, .inr ⟨.inl (.inl a), fun p hp => k _ S1 _ _ (e1.trans (Ev.laid hp)) (hr1.laid hp) (.tup upd_same (by rw [List.length_reverse]; exact z) ((l.ev (Ev.laid hp)).reverse)) q⟩⟩
end TL

set_option Elab.async false
set_option linter.all false
set_option maxRecDepth 100000
set_option maxHeartbeats 4000000
/-! TL11: plain lemmas over the readings. -/
namespace TL
open PySem L2 PyProof.Rows
/-! ### equality -/
theorem oEq_ss {a b : Str} {S : Sto} {R : Post} : oEq (.str a) (.str b) S R ↔ R (.bl (a == b)) S := by simp [oEq, eqC, seqK, isS, eqS, dpC]
theorem oEq_ii {a b : Int} {S : Sto} {R : Post} : oEq (.int a) (.int b) S R ↔ R (.bl (a == b)) S := by simp [oEq, eqC, seqK, isS, eqS, dpC]
theorem oEq_bb {a b : Bool} {S : Sto} {R : Post} : oEq (.bl a) (.bl b) S R ↔ R (.bl (a == b)) S := by simp [oEq, eqC, seqK, isS, eqS, dpC]
theorem oEq_ni {b : Int} {S : Sto} {R : Post} : oEq .non (.int b) S R ↔ R (.bl false) S := by simp [oEq, eqC, seqK, isS, eqS, dpC]
theorem oNe_ss {a b : Str} {S : Sto} {R : Post} : oNe (.str a) (.str b) S R ↔ R (.bl (!(a == b))) S := by simp [oNe, eqC, seqK, isS, eqS, dpC]
theorem oNe_ii {a b : Int} {S : Sto} {R : Post} : oNe (.int a) (.int b) S R ↔ R (.bl (!(a == b))) S := by simp [oNe, eqC, seqK, isS, eqS, dpC]
theorem oNe_bb {a b : Bool} {S : Sto} {R : Post} : oNe (.bl a) (.bl b) S R ↔ R (.bl (!(a == b))) S := by simp [oNe, eqC, seqK, isS, eqS, dpC]
theorem oEq_l0 {ts : List T} {S : Sto} {R : Post} : oEq (.lst ts) (.lst []) S R ↔ R (.bl ts.isEmpty) S := by
  cases ts <;> simp [oEq, eqC, seqK, isS, eqS, dpC, eqQ, eqTL]
theorem oNe_l0 {ts : List T} {S : Sto} {R : Post} : oNe (.lst ts) (.lst []) S R ↔ R (.bl (!ts.isEmpty)) S := by
  cases ts <;> simp [oNe, eqC, seqK, isS, eqS, dpC, eqQ, eqTL]
theorem oEq_t0 {ts : List T} {S : Sto} {R : Post} : oEq (.tup ts) (.tup []) S R ↔ R (.bl ts.isEmpty) S := by
  cases ts <;> simp [oEq, eqC, seqK, isS, eqS, dpC, eqQ, eqTL]
theorem oNe_t0 {ts : List T} {S : Sto} {R : Post} : oNe (.tup ts) (.tup []) S R ↔ R (.bl (!ts.isEmpty)) S := by
  cases ts <;> simp [oNe, eqC, seqK, isS, eqS, dpC, eqQ, eqTL]
theorem oNe_c0 {a : Addr} {ts : List T} {S : Sto} {R : Post} (h : S a = some (.lst ts)) : oNe (.ref a) (.lst []) S R ↔ R (.bl (!ts.isEmpty)) S := by
  cases ts <;> simp [oNe, eqC, seqK, isS, eqS, dpC, eqQ, eqTL, h]
theorem oEq_c0 {a : Addr} {ts : List T} {S : Sto} {R : Post} (h : S a = some (.lst ts)) : oEq (.ref a) (.lst []) S R ↔ R (.bl ts.isEmpty) S := by
  cases ts <;> simp [oEq, eqC, seqK, isS, eqS, dpC, eqQ, eqTL, h]
/-- no cell, not the script -/
def plT : T → Bool
  | .ref _ => false | .arg _ => false | _ => true
def isStrB (t : T) (b : Str) : Bool := match t with
  | .str a => a == b
  | _ => false
theorem oEq_xs {t : T} {b : Str} {S : Sto} {R : Post} (h : plT t = true) : oEq t (.str b) S R ↔ R (.bl (isStrB t b)) S := by
  cases t <;> simp [plT] at h <;> simp [oEq, eqC, seqK, isS, eqS, dpC, isStrB]
theorem oNe_xs {t : T} {b : Str} {S : Sto} {R : Post} (h : plT t = true) : oNe t (.str b) S R ↔ R (.bl (!isStrB t b)) S := by
  cases t <;> simp [plT] at h <;> simp [oNe, eqC, seqK, isS, eqS, dpC, isStrB]
theorem eqT_strx {t : T} {b : Str} (h : plT t = true) : eqT (.str b) t = some (isStrB t b) := by
  cases t <;> simp [plT] at h <;> simp [eqT, isS, isQ, eqS, isStrB]
  rw [Bool.eq_iff_iff, beq_iff_eq, beq_iff_eq]; exact eq_comm
/-- x in a tuple of texts -/
theorem inO_strs {t : T} (h : plT t = true) : ∀ zs : List Str, inO t (zs.map T.str) = some (zs.any fun b => isStrB t b)
  | [] => rfl
  | z :: zs => by
    rw [List.map_cons, List.any_cons]
    simp only [inO, eqT_strx h, inO_strs h zs]
theorem dpL_strs : ∀ zs : List Str, dpL (zs.map T.str) = 0
  | [] => rfl
  | z :: zs => by
    rw [List.map_cons]
    simp only [dpL, dpT]
    rw [dpL_strs zs]
    rfl
theorem oIn_strs {t : T} {zs : List Str} {neg : Bool} {S : Sto} {R : Post} (h : plT t = true) : oIn neg t (.tup (zs.map T.str)) S R ↔ R (.bl (if neg then !(zs.any fun b => isStrB t b) else (zs.any fun b => isStrB t b))) S := by
  have : oIn neg t (.tup (zs.map T.str)) S R = ∃ k ts b, seqK S (.tup (zs.map T.str)) = some (k, ts) ∧ inO t ts = some b ∧ dpL ts ≤ 60 ∧ R (.bl (if neg then !b else b)) S := by
    cases t <;> rfl
  rw [this]
  constructor
  · rintro ⟨k, ts, b, h1, h2, h3, h4⟩
    simp only [seqK, Option.some.injEq, Prod.mk.injEq] at h1
    obtain ⟨rfl, rfl⟩ := h1
    rw [inO_strs h] at h2
    cases h2
    exact h4
  · intro q
    exact ⟨true, _, _, rfl, inO_strs h zs, by rw [dpL_strs]; omega, q⟩
theorem oLt_ii {i j : Int} {S : Sto} {R : Post} : oLt (.int i) (.int j) S R ↔ R (.bl (decide (i < j))) S := Iff.rfl
theorem oLe_ii {i j : Int} {S : Sto} {R : Post} : oLe (.int i) (.int j) S R ↔ R (.bl (decide (i ≤ j))) S := Iff.rfl
theorem oGt_ii {i j : Int} {S : Sto} {R : Post} : oGt (.int i) (.int j) S R ↔ R (.bl (decide (i > j))) S := Iff.rfl
theorem oGe_ii {i j : Int} {S : Sto} {R : Post} : oGe (.int i) (.int j) S R ↔ R (.bl (decide (i ≥ j))) S := Iff.rfl
theorem oSub_ii {i j : Int} {S : Sto} {R : Post} : oSub (.int i) (.int j) S R ↔ R (.int (i - j)) S := Iff.rfl
theorem oAdd_ii {i j : Int} {S : Sto} {R : Post} : oAdd (.int i) (.int j) S R ↔ R (.int (i + j)) S := Iff.rfl
theorem truT_bl {S : Sto} {b : Bool} : truT S (.bl b) = some b := rfl
theorem truT_non {S : Sto} : truT S .non = some false := rfl
theorem truT_int {S : Sto} {i : Int} : truT S (.int i) = some (i != 0) := rfl
theorem truT_lst {S : Sto} {ts : List T} : truT S (.lst ts) = some (!ts.isEmpty) := rfl
theorem truT_tup {S : Sto} {ts : List T} : truT S (.tup ts) = some (!ts.isEmpty) := rfl
/-! ### comprehensions -/
theorem lc_inv {tg : Tg} {we : WE} {ρ : Sl} {R : List T → Sto → Prop} (J : List T → Sto → Prop) : ∀ {ts : List T} {acc : List T} {S : Sto}, J acc S →
    (∀ t ∈ ts, ∀ acc S, J acc S → ∃ ρ1, asg tg t ρ = some ρ1 ∧ ∀ R' : Post, (∀ y S2, J (acc ++ [y]) S2 → R' y S2) → we ρ1 S R') → (∀ acc' S, acc'.length = acc.length + ts.length → J acc' S → R acc' S) → lcT tg wYes we ρ ts acc S R
  | [], acc, S, h, _, q => q acc S (by simp) h
  | t :: ts, acc, S, h, st, q => by
    obtain ⟨ρ1, h1, h2⟩ := st t (List.mem_cons_self ..) acc S h
    refine ⟨ρ1, h1, ?_⟩
    simp only [wYes, if_true]
    exact h2 _ fun y S2 hJ => lc_inv J hJ (fun t' ht' => st t' (List.mem_cons_of_mem _ ht')) fun acc' S3 hl hq => q acc' S3 (by rw [hl]; simp; omega) hq
theorem lc_map {tg : Tg} {we : WE} {ρ : Sl} {S : Sto} {R : List T → Sto → Prop} (f : T → T) : ∀ {ts : List T} {acc : List T}, (∀ t ∈ ts, ∃ ρ1, asg tg t ρ = some ρ1 ∧ ∀ R' : Post, R' (f t) S → we ρ1 S R') → R (acc ++ ts.map f) S → lcT tg wYes we ρ ts acc S R
  | [], acc, _, q => by
    have q : R (acc ++ []) S := q
    rw [List.append_nil] at q
    exact q
  | t :: ts, acc, st, q => by
    obtain ⟨ρ1, h1, h2⟩ := st t (List.mem_cons_self ..)
    refine ⟨ρ1, h1, ?_⟩
    simp only [wYes, if_true]
    exact h2 _ (lc_map f (fun t' ht' => st t' (List.mem_cons_of_mem _ ht')) (by simpa using q))
theorem lc_filter {tg : Tg} {tt : WB} {we : WE} {ρ : Sl} {S : Sto} {R : List T → Sto → Prop} (p : T → Bool) (f : T → T) : ∀ {ts : List T} {acc : List T}, (∀ t ∈ ts, ∃ ρ1, asg tg t ρ = some ρ1 ∧ (∀ R' : Bool → Sto → Prop, R' (p t) S → tt ρ1 S R') ∧ ∀ R' : Post, R' (f t) S → we ρ1 S R') →
    R (acc ++ (ts.filter p).map f) S → lcT tg tt we ρ ts acc S R
  | [], acc, _, q => by
    have q : R (acc ++ []) S := q
    rw [List.append_nil] at q
    exact q
  | t :: ts, acc, st, q => by
    obtain ⟨ρ1, h1, h2, h3⟩ := st t (List.mem_cons_self ..)
    refine ⟨ρ1, h1, h2 _ ?_⟩
    by_cases hp : p t = true
    · rw [if_pos hp]
      exact h3 _ (lc_filter p f (fun t' ht' => st t' (List.mem_cons_of_mem _ ht')) (by simpa [List.filter_cons, hp] using q))
    · rw [if_neg hp]
      exact lc_filter p f (fun t' ht' => st t' (List.mem_cons_of_mem _ ht')) (by simpa [List.filter_cons, hp] using q)
/-! ### loops -/
theorem loop_inv {tg : Tg} {wb : WS} {E : EndsT} (J : Sl → Sto → Prop) : ∀ {ts : List T} {ρ : Sl} {S : Sto}, J ρ S →
    (∀ t ∈ ts, ∀ ρ S, J ρ S → ∃ ρ1, asg tg t ρ = some ρ1 ∧ ∀ nx : Sl → Sto → Prop, (∀ ρ S, J ρ S → nx ρ S) → wb { nx := nx, rt := E.rt, bk := E.nx, ct := nx } ρ1 S) → (∀ ρ S, J ρ S → E.nx ρ S) → loopT tg wb ts E ρ S
  | [], ρ, S, h, _, q => q ρ S h
  | t :: ts, ρ, S, h, st, q => by
    obtain ⟨ρ1, h1, h2⟩ := st t (List.mem_cons_self ..) ρ S h
    exact ⟨ρ1, h1, h2 _ fun ρ' S' hJ => loop_inv J hJ (fun t' ht' => st t' (List.mem_cons_of_mem _ ht')) q⟩
/-- .. by what is still to come -/
theorem loop_rest {tg : Tg} {wb : WS} {E : EndsT} (J : List T → Sl → Sto → Prop) : ∀ {ts : List T} {ρ : Sl} {S : Sto}, J ts ρ S →
    (∀ t ts ρ S, J (t :: ts) ρ S → ∃ ρ1, asg tg t ρ = some ρ1 ∧ ∀ nx : Sl → Sto → Prop, (∀ ρ S, J ts ρ S → nx ρ S) → wb { nx := nx, rt := E.rt, bk := E.nx, ct := nx } ρ1 S) → (∀ ρ S, J [] ρ S → E.nx ρ S) → loopT tg wb ts E ρ S
  | [], ρ, S, h, _, q => q ρ S h
  | t :: ts, ρ, S, h, st, q => by
    obtain ⟨ρ1, h1, h2⟩ := st t ts ρ S h
    exact ⟨ρ1, h1, h2 _ fun ρ' S' hJ => loop_rest J hJ st q⟩
/-! ### what is told once and used often -/
theorem and_ex {α : Type} {a : α} {P : α → Prop} : (∃ t, some a = some t ∧ P t) ↔ P a := ⟨fun ⟨t, h, q⟩ => by cases h; exact q, fun q => ⟨a, rfl, q⟩⟩
theorem and_ex2 {α : Type} {a : α} {P : α → Prop} : (∃ t, some (some a) = some (some t) ∧ P t) ↔ P a := ⟨fun ⟨t, h, q⟩ => by cases h; exact q, fun q => ⟨a, rfl, q⟩⟩
theorem ex_eq {α : Type} {a : α} {P : α → Prop} : (∃ t, a = t ∧ P t) ↔ P a := ⟨fun ⟨t, h, q⟩ => by cases h; exact q, fun q => ⟨a, rfl, q⟩⟩
theorem ex_bl {a : Bool} {P : Bool → Prop} : (∃ b, T.bl a = T.bl b ∧ P b) ↔ P a := ⟨fun ⟨t, h, q⟩ => by cases h; exact q, fun q => ⟨a, rfl, q⟩⟩
theorem ex_str {a : Str} {P : Str → Prop} : (∃ b, T.str a = T.str b ∧ P b) ↔ P a := ⟨fun ⟨t, h, q⟩ => by cases h; exact q, fun q => ⟨a, rfl, q⟩⟩
theorem ex_int {a : Int} {P : Int → Prop} : (∃ b, T.int a = T.int b ∧ P b) ↔ P a := ⟨fun ⟨t, h, q⟩ => by cases h; exact q, fun q => ⟨a, rfl, q⟩⟩
theorem ex_ref {a : Addr} {P : Addr → Prop} : (∃ b, T.ref a = T.ref b ∧ P b) ↔ P a := ⟨fun ⟨t, h, q⟩ => by cases h; exact q, fun q => ⟨a, rfl, q⟩⟩
theorem oLen_1 {t : T} {n : Nat} {S : Sto} {R : Post} (h : lenT S t = some n) : oLen [t] S R ↔ R (.int (n : Nat)) S := ⟨fun ⟨x, m, e, h1, q⟩ => by cases e; rw [h] at h1; cases h1; exact q, fun q => ⟨t, n, rfl, h, q⟩⟩
/-- a chain of comparisons of ints -/
theorem ite_bl {c : Prop} [Decidable c] {R : Bool → Prop} {b : Bool} : (if c then R b else R false) ↔ R (decide c && b) := by
  by_cases h : c <;> simp [h]
/-! ### comprehensions over what is at hand -/
theorem wLc_map {w : WE} {tg : Tg} {we : WE} {vs : List Nat} {ρ : Sl} {S : Sto} {R : Post} {t : T} {ts : List T} (f : T → T) (hw : ∀ R' : Post, R' t S → w ρ S R') (hi : itemsT t = some ts) (hl : ts.length ≤ sizeLine)
    (h : ∀ x ∈ ts, ∃ ρ1, asg tg x (wipeT ρ vs) = some ρ1 ∧ ∀ R' : Post, R' (f x) S → we ρ1 S R') (q : R (.lst (ts.map f)) S) : wLc (wItems w) tg wYes we vs ρ S R :=
  hw _ ⟨ts, hi, hl, lc_map f h (by simpa using q)⟩
theorem wLc_filter {w : WE} {tg : Tg} {tt : WB} {we : WE} {vs : List Nat} {ρ : Sl} {S : Sto} {R : Post} {t : T} {ts : List T} (p : T → Bool) (f : T → T) (hw : ∀ R' : Post, R' t S → w ρ S R') (hi : itemsT t = some ts) (hl : ts.length ≤ sizeLine)
    (h : ∀ x ∈ ts, ∃ ρ1, asg tg x (wipeT ρ vs) = some ρ1 ∧ (∀ R' : Bool → Sto → Prop, R' (p x) S → tt ρ1 S R') ∧ ∀ R' : Post, R' (f x) S → we ρ1 S R') (q : R (.lst ((ts.filter p).map f)) S) : wLc (wItems w) tg tt we vs ρ S R :=
  hw _ ⟨ts, hi, hl, lc_filter p f h (by simpa using q)⟩
theorem oAll_map {g : T → Bool} {ts : List T} {S : Sto} {R : Post} (q : R (.bl (ts.all g)) S) : oAll [.lst (ts.map fun x => .bl (g x))] S R := by
  refine ⟨_, ts.map g, rfl, by simp [asL, List.map_map, Function.comp_def], ?_⟩
  rw [List.all_map]
  exact q
theorem filter_empty {α β : Type} (p : α → Bool) (f : α → β) (ts : List α) : ((ts.filter p).map f).isEmpty = ts.all fun x => !p x := by
  induction ts with
  | nil => rfl
  | cons t ts ih =>
    rw [List.filter_cons, List.all_cons]
    cases h : p t
    · simpa using ih
    · simp
theorem oSplit_1 {a b : Str} {S : Sto} {R : Post} (h1 : (b.length == 0) = false) (h2 : a.length + 2 ≤ sizeLine) (h3 : (Txt.split a b).length ≤ sizeLine) : oSplit (.str a) [.str b] S R ↔ R (.lst ((Txt.split a b).map T.str)) S :=
  ⟨fun ⟨x, y, e1, e2, _, _, _, q⟩ => by cases e1; cases e2; exact q, fun q => ⟨a, b, rfl, rfl, h1, h2, h3, q⟩⟩
theorem oIx_t {ts : List T} {i : Int} {t : T} {S : Sto} {R : Post} (h : atI ts i = some t) : oIx (.tup ts) (.int i) S R ↔ R t S := by
  simp [oIx, seqT, h]
theorem oIx_l {ts : List T} {i : Int} {t : T} {S : Sto} {R : Post} (h : atI ts i = some t) : oIx (.lst ts) (.int i) S R ↔ R t S := by
  simp [oIx, seqT, h]
/-! ### split at one sign -/
theorem spl_one (c : Nat) : ∀ (l acc : List Nat), (TL.spl [c] 0 acc l).length = 1 → TL.spl [c] 0 acc l = [acc ++ l]
  | [], acc, _ => by rw [TL.spl_nil, List.append_nil]
  | d :: l, acc, h => by
    cases hp : TL.pre [c] (d :: l) with
    | true =>
      rw [TL.spl_hit hp] at h
      exfalso
      have : TL.spl [c] 0 [] l ≠ [] := by
        intro e
        have hh : ∀ (l acc : List Nat), TL.spl [c] 0 acc l ≠ [] := by
          intro l
          induction l with
          | nil => intro acc; rw [TL.spl_nil]; simp
          | cons d l ih =>
            intro acc
            cases hp : TL.pre [c] (d :: l) with
            | true => rw [TL.spl_hit hp]; simp
            | false => rw [TL.spl_miss hp]; exact ih _
        exact hh l [] e
      have h1 : (TL.spl [c] 0 [] l).length = 0 := by simpa using h
      exact this (List.eq_nil_of_length_eq_zero h1)
    | false =>
      rw [TL.spl_miss hp] at h ⊢
      rw [spl_one c l _ h]
      simp
theorem spl_ne (c : Nat) : ∀ (l acc : List Nat), TL.spl [c] 0 acc l ≠ []
  | [], acc => by rw [TL.spl_nil]; simp
  | d :: l, acc => by
    cases hp : TL.pre [c] (d :: l) with
    | true => rw [TL.spl_hit hp]; simp
    | false => rw [TL.spl_miss hp]; exact spl_ne c l _
theorem spl_len (c : Nat) : ∀ (l acc : List Nat), (TL.spl [c] 0 acc l).length ≤ l.length + 1
  | [], acc => by rw [TL.spl_nil]; simp
  | d :: l, acc => by
    cases hp : TL.pre [c] (d :: l) with
    | true =>
      rw [TL.spl_hit hp]
      have := spl_len c l []
      simp only [List.length_cons, List.length_nil] at this ⊢
      exact Nat.succ_le_succ this
    | false =>
      rw [TL.spl_miss hp]
      have := spl_len c l (acc ++ [d])
      simp only [List.length_cons] at this ⊢
      omega
theorem spl_mem (c : Nat) : ∀ (l acc : List Nat) (p : List Nat), p ∈ TL.spl [c] 0 acc l → p.length ≤ acc.length + l.length
  | [], acc, p, h => by
    rw [TL.spl_nil] at h
    have : p = acc := by simpa using h
    rw [this]; simp
  | d :: l, acc, p, h => by
    cases hp : TL.pre [c] (d :: l) with
    | true =>
      rw [TL.spl_hit hp] at h
      rcases List.mem_cons.mp h with e | h
      · rw [e]; simp
      · have := spl_mem c l [] p h
        simp only [List.length_cons, List.length_nil] at this ⊢
        omega
    | false =>
      rw [TL.spl_miss hp] at h
      have := spl_mem c l _ p h
      simp only [List.length_cons, List.length_append, List.length_nil] at this ⊢
      omega
theorem split_tl (z : Str) {y : Str} {c : Nat} (h : y = ⟨#[c]⟩) (hc : c < 256) : (Txt.split z y).map TL.tl = TL.spl [c] 0 [] (TL.tl z) := by
  subst h
  exact TL.split_spl z ⟨#[c]⟩ (by simp [TL.tl]) (TL.kind_ok (by simp [hc]))
theorem split_one {z y : Str} {c : Nat} (h : y = ⟨#[c]⟩) (hc : c < 256) (h1 : (Txt.split z y).length = 1) : Txt.split z y = [z] := by
  have e := split_tl z h hc
  have l : (TL.spl [c] 0 [] (TL.tl z)).length = 1 := by rw [← e, List.length_map]; exact h1
  rw [spl_one c _ _ l, List.nil_append] at e
  exact TL.map_tl_inj (by rw [e]; rfl)
theorem split_ne {z y : Str} {c : Nat} (h : y = ⟨#[c]⟩) (hc : c < 256) : Txt.split z y ≠ [] := by
  intro e
  have e2 := split_tl z h hc
  rw [e] at e2
  exact spl_ne c _ _ e2.symm
theorem split_len {z y : Str} {c : Nat} (h : y = ⟨#[c]⟩) (hc : c < 256) : (Txt.split z y).length ≤ z.length + 1 := by
  have e := congrArg List.length (split_tl z h hc)
  rw [List.length_map] at e
  rw [e, TL.len_tl]
  exact spl_len c _ _
theorem split_mem {z y p : Str} {c : Nat} (h : y = ⟨#[c]⟩) (hc : c < 256) (hp : p ∈ Txt.split z y) : p.length ≤ z.length := by
  have e := split_tl z h hc
  have : TL.tl p ∈ TL.spl [c] 0 [] (TL.tl z) := by rw [← e]; exact List.mem_map_of_mem hp
  have := spl_mem c _ _ _ this
  rw [TL.len_tl p, TL.len_tl z]
  simpa using this
/-! ### literal texts -/
theorem toNat_inj {a b : Char} (h : a.toNat = b.toNat) : a = b := by
  apply Char.ext
  exact UInt32.toNat_inj.mp h
theorem mapNat_inj : ∀ {l m : List Char}, l.map Char.toNat = m.map Char.toNat → l = m
  | [], [], _ => rfl
  | [], _ :: _, h => by simp at h
  | _ :: _, [], h => by simp at h
  | a :: l, b :: m, h => by
    rw [List.map_cons, List.map_cons] at h
    injection h with h1 h2
    rw [toNat_inj h1, mapNat_inj h2]
theorem ofS_eq {a b : String} : (Str.ofString a = Str.ofString b) = (a = b) := by
  apply propext
  constructor
  · intro h
    have e := congrArg (fun s : Str => s.cps.toList) h
    simp only [PyProof.Rows.signs_ofString] at e
    exact String.toList_inj.mp (mapNat_inj e)
  · intro h; rw [h]
theorem ofS_beq {a b : String} : (Str.ofString a == Str.ofString b) = (a == b) := by
  rw [Bool.eq_iff_iff, beq_iff_eq, beq_iff_eq, ofS_eq]
end TL

set_option Elab.async false
set_option linter.all false
set_option maxRecDepth 100000
set_option maxHeartbeats 4000000
/-! TL12 (printed by mk12.py): the readings one step at a time. -/
namespace TL
open PySem L2 PyProof.Rows
theorem at_nat {α : Type} {ts : List α} {i : Nat} {t : α} (h : ts[i]? = some t) : atI ts ((i : Nat) : Int) = some t := by
  have hl : i < ts.length := (List.getElem?_eq_some_iff.mp h).1
  unfold atI ixN
  rw [if_pos (by omega), if_pos (by omega)]
  simpa using h
theorem u_sRet {w : WE} {E : EndsT} {ρ : Sl} {S : Sto} : (sRet w E ρ S) = (w ρ S E.rt) := rfl
theorem u_sRetN {E : EndsT} {ρ : Sl} {S : Sto} : (sRetN E ρ S) = (E.rt .non S) := rfl
theorem u_sNext {E : EndsT} {ρ : Sl} {S : Sto} : (sNext E ρ S) = (E.nx ρ S) := rfl
theorem u_sBrk {E : EndsT} {ρ : Sl} {S : Sto} : (sBrk E ρ S) = (E.bk ρ S) := rfl
theorem u_sCont {E : EndsT} {ρ : Sl} {S : Sto} : (sCont E ρ S) = (E.ct ρ S) := rfl
theorem u_sSeq {E : EndsT} {ρ : Sl} {S : Sto} {sa sb : WS} : (sSeq sa sb E ρ S) = (sa { nx := fun ρ' S' => sb E ρ' S', rt := E.rt, bk := E.bk, ct := E.ct } ρ S) := rfl
theorem u_sDrop {w : WE} {E : EndsT} {ρ : Sl} {S : Sto} : (sDrop w E ρ S) = (w ρ S fun _ S' => E.nx ρ S') := rfl
theorem u_sIf {c : WB} {E : EndsT} {ρ : Sl} {S : Sto} {sa sb : WS} : (sIf c sa sb E ρ S) = (c ρ S fun k S1 => if k = true then sa E ρ S1 else sb E ρ S1) := rfl
theorem u_wNil {ρ : Sl} {S : Sto} {RA : List T → Sto → Prop} : (wNil ρ S RA) = (RA [] S) := rfl
theorem u_wCons {w : WE} {ws : WA} {ρ : Sl} {S : Sto} {RA : List T → Sto → Prop} : (wCons w ws ρ S RA) = (w ρ S fun x S1 => ws ρ S1 fun xs S2 => RA (x :: xs) S2) := rfl
theorem u_wTup {ws : WA} {ρ : Sl} {S : Sto} {R : Post} : (wTup ws ρ S R) = (ws ρ S fun xs S1 => xs.length ≤ sizeLine ∧ R (.tup xs) S1) := rfl
theorem u_wLst {ws : WA} {ρ : Sl} {S : Sto} {R : Post} : (wLst ws ρ S R) = (ws ρ S fun xs S1 => xs.length ≤ sizeLine ∧ R (.lst xs) S1) := rfl
theorem u_wTst {w : WE} {ρ : Sl} {S : Sto} {RB : Bool → Sto → Prop} : (wTst w ρ S RB) = (w ρ S fun t S' => ∃ b, t = .bl b ∧ RB b S') := rfl
theorem u_wTru {w : WE} {ρ : Sl} {S : Sto} {RB : Bool → Sto → Prop} : (wTru w ρ S RB) = (w ρ S fun t S' => ∃ b, truT S' t = some b ∧ RB b S') := rfl
theorem u_wAnd {c d : WB} {ρ : Sl} {S : Sto} {RB : Bool → Sto → Prop} : (wAnd c d ρ S RB) = (c ρ S fun k S1 => if k = true then d ρ S1 RB else RB false S1) := rfl
theorem u_wOr {c d : WB} {ρ : Sl} {S : Sto} {RB : Bool → Sto → Prop} : (wOr c d ρ S RB) = (c ρ S fun k S1 => if k = true then RB true S1 else d ρ S1 RB) := rfl
theorem u_wNot {c : WB} {ρ : Sl} {S : Sto} {RB : Bool → Sto → Prop} : (wNot c ρ S RB) = (c ρ S fun k S1 => RB (!k) S1) := rfl
theorem u_wAndV {wa wb : WE} {ρ : Sl} {S : Sto} {R : Post} : (wAndV wa wb ρ S R) = (wa ρ S fun x S1 => ∃ k, truT S1 x = some k ∧ if k = true then wb ρ S1 R else R x S1) := rfl
theorem u_wOrV {wa wb : WE} {ρ : Sl} {S : Sto} {R : Post} : (wOrV wa wb ρ S R) = (wa ρ S fun x S1 => ∃ k, truT S1 x = some k ∧ if k = true then R x S1 else wb ρ S1 R) := rfl
theorem u_wNotV {wa : WE} {ρ : Sl} {S : Sto} {R : Post} : (wNotV wa ρ S R) = (wa ρ S fun x S1 => ∃ k, truT S1 x = some k ∧ R (.bl (!k)) S1) := rfl
theorem u_wIfE {wa wb : WE} {c : WB} {ρ : Sl} {S : Sto} {R : Post} : (wIfE c wa wb ρ S R) = (c ρ S fun k S1 => if k = true then wa ρ S1 R else wb ρ S1 R) := rfl
theorem u_wC {ρ : Sl} {S : Sto} {R : Post} {t : T} : (wC t ρ S R) = (R t S) := rfl
theorem u_wOp {wa wb : WE} {ρ : Sl} {S : Sto} {R : Post} {o : T → T → Sto → Post → Prop} : (wOp o wa wb ρ S R) = (wa ρ S fun x S1 => wb ρ S1 fun y S2 => o x y S2 R) := rfl
theorem u_wUn {wa : WE} {ρ : Sl} {S : Sto} {R : Post} {o : T → Sto → Post → Prop} : (wUn o wa ρ S R) = (wa ρ S fun x S1 => o x S1 R) := rfl
theorem u_wCall {ws : WA} {ρ : Sl} {S : Sto} {R : Post} {o : List T → Sto → Post → Prop} : (wCall o ws ρ S R) = (ws ρ S fun xs S1 => o xs S1 R) := rfl
theorem u_wChain {w wa wb wc : WE} {ρ : Sl} {S : Sto} {R : Post} {o o' : T → T → Sto → Post → Prop} : (wChain o o' wa wb wc ρ S R) = (wa ρ S fun x S1 => wb ρ S1 fun y S2 => o x y S2 fun z S3 => ∃ k, z = .bl k ∧ (if k = true then wc ρ S3 fun w S4 => o' y w S4 R else R (.bl false) S3)) := rfl
theorem u_wIsi {w : WE} {ρ : Sl} {S : Sto} {R : Post} {n : String} : (wIsi n w ρ S R) = (w ρ S fun t S1 => (tyT S1 t).isSome = true ∧ R (.bl (isA n S1 t)) S1) := rfl
theorem u_wPart {w : WE} {ρ : Sl} {S : Sto} {RO : Option Int → Sto → Prop} : (wPart w ρ S RO) = (w ρ S fun t S1 => ∃ i, t = .int i ∧ RO (some i) S1) := rfl
theorem u_wNoPart {ρ : Sl} {S : Sto} {RO : Option Int → Sto → Prop} : (wNoPart ρ S RO) = (RO none S) := rfl
theorem u_wSl {w : WE} {ρ : Sl} {S : Sto} {R : Post} {wl wh : WO} : (wSl w wl wh ρ S R) = (w ρ S fun x S1 => wl ρ S1 fun l S2 => wh ρ S2 fun h S3 => oSl x l h S3 R) := rfl
theorem u_slT {S : Sto} {R : Post} {ts : List T} {lo hi : Option Int} : (oSl (.tup ts) lo hi S R) = (R (.tup (cutT ts lo hi)) S) := rfl
theorem u_slL {S : Sto} {R : Post} {ts : List T} {lo hi : Option Int} : (oSl (.lst ts) lo hi S R) = (R (.lst (cutT ts lo hi)) S) := by simp [oSl, asL]
theorem u_wMeth {w : WE} {ws : WA} {ρ : Sl} {S : Sto} {R : Post} {n : String} {o : T → List T → Sto → Post → Prop} : (wMeth n o w ws ρ S R) = (w ρ S fun x S1 => tyT S1 x = some n ∧ ws ρ S1 fun xs S2 => o x xs S2 R) := rfl
theorem u_wDGet {wa wb : WE} {ρ : Sl} {S : Sto} {R : Post} : (wDGet wa wb ρ S R) = (wa ρ S fun x S1 => wb ρ S1 fun y S2 => ∃ a t, x = .ref a ∧ dgT S2 a y = some (some t) ∧ R t S2) := rfl
theorem u_sDPutT {w wa wb : WE} {E : EndsT} {ρ : Sl} {S : Sto} : (sDPutT wa wb w E ρ S) = (w ρ S fun t S1 => wa ρ S1 fun x S2 => wb ρ S2 fun y S3 => ∃ a c0, x = .ref a ∧ dPutT0 S3 a y t = some c0 ∧ E.nx ρ (supd S3 a c0)) := rfl
theorem u_wDIn {wa wb : WE} {ρ : Sl} {S : Sto} {R : Post} {neg : Bool} : (wDIn neg wa wb ρ S R) = (wa ρ S fun y S1 => wb ρ S1 fun x S2 => ∃ a o, x = .ref a ∧ dgT S2 a y = some o ∧ R (.bl (if neg then !o.isSome else o.isSome)) S2) := rfl
theorem u_wKGet {w : WE} {ρ : Sl} {S : Sto} {R : Post} {kvs : List (Str × T)} : (wKGet kvs w ρ S R) = (w ρ S fun x S1 => ∃ z, x = .str z ∧ R ((lookS z kvs).getD .non) S1) := rfl
theorem u_wInK {w : WE} {ρ : Sl} {S : Sto} {R : Post} {neg : Bool} {ts : List T} : (wInK neg ts w ρ S R) = (w ρ S fun x S1 => ∃ b, inO x ts = some b ∧ dpL ts ≤ 60 ∧ R (.bl (if neg then !b else b)) S1) := rfl
theorem u_sAsg {w : WE} {E : EndsT} {ρ : Sl} {S : Sto} {tg : Tg} : (sAsg tg w E ρ S) = (w ρ S fun t S' => ∃ ρ', asg tg t ρ = some ρ' ∧ E.nx ρ' S') := rfl
theorem u_exbl {a : Bool} {P : Bool → Prop} : (∃ b, T.bl a = T.bl b ∧ P b) = (P a) := propext ex_bl
theorem u_exint {a : Int} {P : Int → Prop} : (∃ b, T.int a = T.int b ∧ P b) = (P a) := propext ex_int
theorem u_exstr {a : Str} {P : Str → Prop} : (∃ b, T.str a = T.str b ∧ P b) = (P a) := propext ex_str
theorem u_exref {a : Addr} {P : Addr → Prop} : (∃ b, T.ref a = T.ref b ∧ P b) = (P a) := propext ex_ref
theorem u_exsome {α : Type} {a : α} {P : α → Prop} : (∃ b, some a = some b ∧ P b) = (P a) := propext and_ex
theorem u_trubl {S : Sto} {a : Bool} {P : Bool → Prop} : (∃ b, truT S (.bl a) = some b ∧ P b) = (P a) := propext and_ex
theorem u_truint {S : Sto} {i : Int} {P : Bool → Prop} : (∃ b, truT S (.int i) = some b ∧ P b) = (P (i != 0)) := propext and_ex
theorem u_trunon {S : Sto} {P : Bool → Prop} : (∃ b, truT S .non = some b ∧ P b) = (P false) := propext and_ex
theorem u_trulst {S : Sto} {ts : List T} {P : Bool → Prop} : (∃ b, truT S (.lst ts) = some b ∧ P b) = (P (!ts.isEmpty)) := propext and_ex
theorem u_trutup {S : Sto} {ts : List T} {P : Bool → Prop} : (∃ b, truT S (.tup ts) = some b ∧ P b) = (P (!ts.isEmpty)) := propext and_ex
theorem u_lenT {S : Sto} {R : Post} {ts : List T} : (oLen [.tup ts] S R) = (R (.int (ts.length : Nat)) S) := propext (oLen_1 rfl)
theorem u_lenL {S : Sto} {R : Post} {ts : List T} : (oLen [.lst ts] S R) = (R (.int (ts.length : Nat)) S) := propext (oLen_1 rfl)
theorem u_isnon {S : Sto} {R : Post} {t : T} : (oIs t .non S R) = (R (.bl (isNon t)) S) := by cases t <;> rfl
theorem u_ixtup0 {S : Sto} {R : Post} {a : T} {l : List T} : (oIx (.tup (a :: l)) (.int 0) S R) = (R a S) := propext (oIx_t (at_nat (i := 0) rfl))
theorem u_ixlst0 {S : Sto} {R : Post} {a : T} {l : List T} : (oIx (.lst (a :: l)) (.int 0) S R) = (R a S) := propext (oIx_l (at_nat (i := 0) rfl))
theorem u_ixtup1 {S : Sto} {R : Post} {a : T} {l : List T} {x0 : T} : (oIx (.tup (x0 :: a :: l)) (.int 1) S R) = (R a S) := propext (oIx_t (at_nat (i := 1) rfl))
theorem u_ixlst1 {S : Sto} {R : Post} {a : T} {l : List T} {x0 : T} : (oIx (.lst (x0 :: a :: l)) (.int 1) S R) = (R a S) := propext (oIx_l (at_nat (i := 1) rfl))
theorem u_ixtup2 {S : Sto} {R : Post} {a : T} {l : List T} {x0 : T} {x1 : T} : (oIx (.tup (x0 :: x1 :: a :: l)) (.int 2) S R) = (R a S) := propext (oIx_t (at_nat (i := 2) rfl))
theorem u_ixlst2 {S : Sto} {R : Post} {a : T} {l : List T} {x0 : T} {x1 : T} : (oIx (.lst (x0 :: x1 :: a :: l)) (.int 2) S R) = (R a S) := propext (oIx_l (at_nat (i := 2) rfl))
theorem u_ixtup3 {S : Sto} {R : Post} {a : T} {l : List T} {x0 : T} {x1 : T} {x2 : T} : (oIx (.tup (x0 :: x1 :: x2 :: a :: l)) (.int 3) S R) = (R a S) := propext (oIx_t (at_nat (i := 3) rfl))
theorem u_ixlst3 {S : Sto} {R : Post} {a : T} {l : List T} {x0 : T} {x1 : T} {x2 : T} : (oIx (.lst (x0 :: x1 :: x2 :: a :: l)) (.int 3) S R) = (R a S) := propext (oIx_l (at_nat (i := 3) rfl))
theorem u_ixtup4 {S : Sto} {R : Post} {a : T} {l : List T} {x0 : T} {x1 : T} {x2 : T} {x3 : T} : (oIx (.tup (x0 :: x1 :: x2 :: x3 :: a :: l)) (.int 4) S R) = (R a S) := propext (oIx_t (at_nat (i := 4) rfl))
theorem u_ixlst4 {S : Sto} {R : Post} {a : T} {l : List T} {x0 : T} {x1 : T} {x2 : T} {x3 : T} : (oIx (.lst (x0 :: x1 :: x2 :: x3 :: a :: l)) (.int 4) S R) = (R a S) := propext (oIx_l (at_nat (i := 4) rfl))
theorem u_ixtup5 {S : Sto} {R : Post} {a : T} {l : List T} {x0 : T} {x1 : T} {x2 : T} {x3 : T} {x4 : T} : (oIx (.tup (x0 :: x1 :: x2 :: x3 :: x4 :: a :: l)) (.int 5) S R) = (R a S) := propext (oIx_t (at_nat (i := 5) rfl))
theorem u_ixlst5 {S : Sto} {R : Post} {a : T} {l : List T} {x0 : T} {x1 : T} {x2 : T} {x3 : T} {x4 : T} : (oIx (.lst (x0 :: x1 :: x2 :: x3 :: x4 :: a :: l)) (.int 5) S R) = (R a S) := propext (oIx_l (at_nat (i := 5) rfl))
theorem u_v0 {S : Sto} {R : Post} {t : T} {l : Sl} : (wVar 0 (some t :: l) S R) = (R t S) := propext ⟨fun ⟨_, h, q⟩ => by cases h; exact q, fun q => ⟨_, rfl, q⟩⟩
theorem u_s0 {w : WE} {E : EndsT} {S : Sto} {y : Option T} {t : T} {l : Sl} : (sSet 0 w E (y :: l) S) = (w (y :: l) S fun t S' => E.nx (some t :: l) S') := rfl
theorem u_v1 {S : Sto} {R : Post} {t : T} {l : Sl} {x0 : Option T} : (wVar 1 (x0 :: some t :: l) S R) = (R t S) := propext ⟨fun ⟨_, h, q⟩ => by cases h; exact q, fun q => ⟨_, rfl, q⟩⟩
theorem u_s1 {w : WE} {E : EndsT} {S : Sto} {y : Option T} {t : T} {l : Sl} {x0 : Option T} : (sSet 1 w E (x0 :: y :: l) S) = (w (x0 :: y :: l) S fun t S' => E.nx (x0 :: some t :: l) S') := rfl
theorem u_v2 {S : Sto} {R : Post} {t : T} {l : Sl} {x0 : Option T} {x1 : Option T} : (wVar 2 (x0 :: x1 :: some t :: l) S R) = (R t S) := propext ⟨fun ⟨_, h, q⟩ => by cases h; exact q, fun q => ⟨_, rfl, q⟩⟩
theorem u_s2 {w : WE} {E : EndsT} {S : Sto} {y : Option T} {t : T} {l : Sl} {x0 : Option T} {x1 : Option T} : (sSet 2 w E (x0 :: x1 :: y :: l) S) = (w (x0 :: x1 :: y :: l) S fun t S' => E.nx (x0 :: x1 :: some t :: l) S') := rfl
theorem u_v3 {S : Sto} {R : Post} {t : T} {l : Sl} {x0 : Option T} {x1 : Option T} {x2 : Option T} : (wVar 3 (x0 :: x1 :: x2 :: some t :: l) S R) = (R t S) := propext ⟨fun ⟨_, h, q⟩ => by cases h; exact q, fun q => ⟨_, rfl, q⟩⟩
theorem u_s3 {w : WE} {E : EndsT} {S : Sto} {y : Option T} {t : T} {l : Sl} {x0 : Option T} {x1 : Option T} {x2 : Option T} : (sSet 3 w E (x0 :: x1 :: x2 :: y :: l) S) = (w (x0 :: x1 :: x2 :: y :: l) S fun t S' => E.nx (x0 :: x1 :: x2 :: some t :: l) S') := rfl
theorem u_v4 {S : Sto} {R : Post} {t : T} {l : Sl} {x0 : Option T} {x1 : Option T} {x2 : Option T} {x3 : Option T} : (wVar 4 (x0 :: x1 :: x2 :: x3 :: some t :: l) S R) = (R t S) := propext ⟨fun ⟨_, h, q⟩ => by cases h; exact q, fun q => ⟨_, rfl, q⟩⟩
theorem u_s4 {w : WE} {E : EndsT} {S : Sto} {y : Option T} {t : T} {l : Sl} {x0 : Option T} {x1 : Option T} {x2 : Option T} {x3 : Option T} : (sSet 4 w E (x0 :: x1 :: x2 :: x3 :: y :: l) S) = (w (x0 :: x1 :: x2 :: x3 :: y :: l) S fun t S' => E.nx (x0 :: x1 :: x2 :: x3 :: some t :: l) S') := rfl
theorem u_v5 {S : Sto} {R : Post} {t : T} {l : Sl} {x0 : Option T} {x1 : Option T} {x2 : Option T} {x3 : Option T} {x4 : Option T} : (wVar 5 (x0 :: x1 :: x2 :: x3 :: x4 :: some t :: l) S R) = (R t S) := propext ⟨fun ⟨_, h, q⟩ => by cases h; exact q, fun q => ⟨_, rfl, q⟩⟩
theorem u_s5 {w : WE} {E : EndsT} {S : Sto} {y : Option T} {t : T} {l : Sl} {x0 : Option T} {x1 : Option T} {x2 : Option T} {x3 : Option T} {x4 : Option T} : (sSet 5 w E (x0 :: x1 :: x2 :: x3 :: x4 :: y :: l) S) = (w (x0 :: x1 :: x2 :: x3 :: x4 :: y :: l) S fun t S' => E.nx (x0 :: x1 :: x2 :: x3 :: x4 :: some t :: l) S') := rfl
theorem u_v6 {S : Sto} {R : Post} {t : T} {l : Sl} {x0 : Option T} {x1 : Option T} {x2 : Option T} {x3 : Option T} {x4 : Option T} {x5 : Option T} : (wVar 6 (x0 :: x1 :: x2 :: x3 :: x4 :: x5 :: some t :: l) S R) = (R t S) := propext ⟨fun ⟨_, h, q⟩ => by cases h; exact q, fun q => ⟨_, rfl, q⟩⟩
theorem u_s6 {w : WE} {E : EndsT} {S : Sto} {y : Option T} {t : T} {l : Sl} {x0 : Option T} {x1 : Option T} {x2 : Option T} {x3 : Option T} {x4 : Option T} {x5 : Option T} : (sSet 6 w E (x0 :: x1 :: x2 :: x3 :: x4 :: x5 :: y :: l) S) = (w (x0 :: x1 :: x2 :: x3 :: x4 :: x5 :: y :: l) S fun t S' => E.nx (x0 :: x1 :: x2 :: x3 :: x4 :: x5 :: some t :: l) S') := rfl
theorem u_v7 {S : Sto} {R : Post} {t : T} {l : Sl} {x0 : Option T} {x1 : Option T} {x2 : Option T} {x3 : Option T} {x4 : Option T} {x5 : Option T} {x6 : Option T} : (wVar 7 (x0 :: x1 :: x2 :: x3 :: x4 :: x5 :: x6 :: some t :: l) S R) = (R t S) := propext ⟨fun ⟨_, h, q⟩ => by cases h; exact q, fun q => ⟨_, rfl, q⟩⟩
theorem u_s7 {w : WE} {E : EndsT} {S : Sto} {y : Option T} {t : T} {l : Sl} {x0 : Option T} {x1 : Option T} {x2 : Option T} {x3 : Option T} {x4 : Option T} {x5 : Option T} {x6 : Option T} : (sSet 7 w E (x0 :: x1 :: x2 :: x3 :: x4 :: x5 :: x6 :: y :: l) S) = (w (x0 :: x1 :: x2 :: x3 :: x4 :: x5 :: x6 :: y :: l) S fun t S' => E.nx (x0 :: x1 :: x2 :: x3 :: x4 :: x5 :: x6 :: some t :: l) S') := rfl
theorem u_v8 {S : Sto} {R : Post} {t : T} {l : Sl} {x0 : Option T} {x1 : Option T} {x2 : Option T} {x3 : Option T} {x4 : Option T} {x5 : Option T} {x6 : Option T} {x7 : Option T} : (wVar 8 (x0 :: x1 :: x2 :: x3 :: x4 :: x5 :: x6 :: x7 :: some t :: l) S R) = (R t S) := propext ⟨fun ⟨_, h, q⟩ => by cases h; exact q, fun q => ⟨_, rfl, q⟩⟩
theorem u_s8 {w : WE} {E : EndsT} {S : Sto} {y : Option T} {t : T} {l : Sl} {x0 : Option T} {x1 : Option T} {x2 : Option T} {x3 : Option T} {x4 : Option T} {x5 : Option T} {x6 : Option T} {x7 : Option T} : (sSet 8 w E (x0 :: x1 :: x2 :: x3 :: x4 :: x5 :: x6 :: x7 :: y :: l) S) = (w (x0 :: x1 :: x2 :: x3 :: x4 :: x5 :: x6 :: x7 :: y :: l) S fun t S' => E.nx (x0 :: x1 :: x2 :: x3 :: x4 :: x5 :: x6 :: x7 :: some t :: l) S') := rfl
theorem u_v9 {S : Sto} {R : Post} {t : T} {l : Sl} {x0 : Option T} {x1 : Option T} {x2 : Option T} {x3 : Option T} {x4 : Option T} {x5 : Option T} {x6 : Option T} {x7 : Option T} {x8 : Option T} : (wVar 9 (x0 :: x1 :: x2 :: x3 :: x4 :: x5 :: x6 :: x7 :: x8 :: some t :: l) S R) = (R t S) := propext ⟨fun ⟨_, h, q⟩ => by cases h; exact q, fun q => ⟨_, rfl, q⟩⟩
theorem u_s9 {w : WE} {E : EndsT} {S : Sto} {y : Option T} {t : T} {l : Sl} {x0 : Option T} {x1 : Option T} {x2 : Option T} {x3 : Option T} {x4 : Option T} {x5 : Option T} {x6 : Option T} {x7 : Option T} {x8 : Option T} : (sSet 9 w E (x0 :: x1 :: x2 :: x3 :: x4 :: x5 :: x6 :: x7 :: x8 :: y :: l) S) = (w (x0 :: x1 :: x2 :: x3 :: x4 :: x5 :: x6 :: x7 :: x8 :: y :: l) S fun t S' => E.nx (x0 :: x1 :: x2 :: x3 :: x4 :: x5 :: x6 :: x7 :: x8 :: some t :: l) S') := rfl
theorem u_v10 {S : Sto} {R : Post} {t : T} {l : Sl} {x0 : Option T} {x1 : Option T} {x2 : Option T} {x3 : Option T} {x4 : Option T} {x5 : Option T} {x6 : Option T} {x7 : Option T} {x8 : Option T} {x9 : Option T} : (wVar 10 (x0 :: x1 :: x2 :: x3 :: x4 :: x5 :: x6 :: x7 :: x8 :: x9 :: some t :: l) S R) = (R t S) := propext ⟨fun ⟨_, h, q⟩ => by cases h; exact q, fun q => ⟨_, rfl, q⟩⟩
theorem u_s10 {w : WE} {E : EndsT} {S : Sto} {y : Option T} {t : T} {l : Sl} {x0 : Option T} {x1 : Option T} {x2 : Option T} {x3 : Option T} {x4 : Option T} {x5 : Option T} {x6 : Option T} {x7 : Option T} {x8 : Option T} {x9 : Option T} : (sSet 10 w E (x0 :: x1 :: x2 :: x3 :: x4 :: x5 :: x6 :: x7 :: x8 :: x9 :: y :: l) S) = (w (x0 :: x1 :: x2 :: x3 :: x4 :: x5 :: x6 :: x7 :: x8 :: x9 :: y :: l) S fun t S' => E.nx (x0 :: x1 :: x2 :: x3 :: x4 :: x5 :: x6 :: x7 :: x8 :: x9 :: some t :: l) S') := rfl
theorem u_v11 {S : Sto} {R : Post} {t : T} {l : Sl} {x0 : Option T} {x1 : Option T} {x2 : Option T} {x3 : Option T} {x4 : Option T} {x5 : Option T} {x6 : Option T} {x7 : Option T} {x8 : Option T} {x9 : Option T} {x10 : Option T} : (wVar 11 (x0 :: x1 :: x2 :: x3 :: x4 :: x5 :: x6 :: x7 :: x8 :: x9 :: x10 :: some t :: l) S R) = (R t S) := propext ⟨fun ⟨_, h, q⟩ => by cases h; exact q, fun q => ⟨_, rfl, q⟩⟩
theorem u_s11 {w : WE} {E : EndsT} {S : Sto} {y : Option T} {t : T} {l : Sl} {x0 : Option T} {x1 : Option T} {x2 : Option T} {x3 : Option T} {x4 : Option T} {x5 : Option T} {x6 : Option T} {x7 : Option T} {x8 : Option T} {x9 : Option T} {x10 : Option T} : (sSet 11 w E (x0 :: x1 :: x2 :: x3 :: x4 :: x5 :: x6 :: x7 :: x8 :: x9 :: x10 :: y :: l) S) = (w (x0 :: x1 :: x2 :: x3 :: x4 :: x5 :: x6 :: x7 :: x8 :: x9 :: x10 :: y :: l) S fun t S' => E.nx (x0 :: x1 :: x2 :: x3 :: x4 :: x5 :: x6 :: x7 :: x8 :: x9 :: x10 :: some t :: l) S') := rfl
theorem u_v12 {S : Sto} {R : Post} {t : T} {l : Sl} {x0 : Option T} {x1 : Option T} {x2 : Option T} {x3 : Option T} {x4 : Option T} {x5 : Option T} {x6 : Option T} {x7 : Option T} {x8 : Option T} {x9 : Option T} {x10 : Option T} {x11 : Option T} : (wVar 12 (x0 :: x1 :: x2 :: x3 :: x4 :: x5 :: x6 :: x7 :: x8 :: x9 :: x10 :: x11 :: some t :: l) S R) = (R t S) := propext ⟨fun ⟨_, h, q⟩ => by cases h; exact q, fun q => ⟨_, rfl, q⟩⟩
theorem u_s12 {w : WE} {E : EndsT} {S : Sto} {y : Option T} {t : T} {l : Sl} {x0 : Option T} {x1 : Option T} {x2 : Option T} {x3 : Option T} {x4 : Option T} {x5 : Option T} {x6 : Option T} {x7 : Option T} {x8 : Option T} {x9 : Option T} {x10 : Option T} {x11 : Option T} : (sSet 12 w E (x0 :: x1 :: x2 :: x3 :: x4 :: x5 :: x6 :: x7 :: x8 :: x9 :: x10 :: x11 :: y :: l) S) = (w (x0 :: x1 :: x2 :: x3 :: x4 :: x5 :: x6 :: x7 :: x8 :: x9 :: x10 :: x11 :: y :: l) S fun t S' => E.nx (x0 :: x1 :: x2 :: x3 :: x4 :: x5 :: x6 :: x7 :: x8 :: x9 :: x10 :: x11 :: some t :: l) S') := rfl
theorem u_v13 {S : Sto} {R : Post} {t : T} {l : Sl} {x0 : Option T} {x1 : Option T} {x2 : Option T} {x3 : Option T} {x4 : Option T} {x5 : Option T} {x6 : Option T} {x7 : Option T} {x8 : Option T} {x9 : Option T} {x10 : Option T} {x11 : Option T} {x12 : Option T} : (wVar 13 (x0 :: x1 :: x2 :: x3 :: x4 :: x5 :: x6 :: x7 :: x8 :: x9 :: x10 :: x11 :: x12 :: some t :: l) S R) = (R t S) := propext ⟨fun ⟨_, h, q⟩ => by cases h; exact q, fun q => ⟨_, rfl, q⟩⟩
theorem u_s13 {w : WE} {E : EndsT} {S : Sto} {y : Option T} {t : T} {l : Sl} {x0 : Option T} {x1 : Option T} {x2 : Option T} {x3 : Option T} {x4 : Option T} {x5 : Option T} {x6 : Option T} {x7 : Option T} {x8 : Option T} {x9 : Option T} {x10 : Option T} {x11 : Option T} {x12 : Option T} : (sSet 13 w E (x0 :: x1 :: x2 :: x3 :: x4 :: x5 :: x6 :: x7 :: x8 :: x9 :: x10 :: x11 :: x12 :: y :: l) S) = (w (x0 :: x1 :: x2 :: x3 :: x4 :: x5 :: x6 :: x7 :: x8 :: x9 :: x10 :: x11 :: x12 :: y :: l) S fun t S' => E.nx (x0 :: x1 :: x2 :: x3 :: x4 :: x5 :: x6 :: x7 :: x8 :: x9 :: x10 :: x11 :: x12 :: some t :: l) S') := rfl
theorem u_v14 {S : Sto} {R : Post} {t : T} {l : Sl} {x0 : Option T} {x1 : Option T} {x2 : Option T} {x3 : Option T} {x4 : Option T} {x5 : Option T} {x6 : Option T} {x7 : Option T} {x8 : Option T} {x9 : Option T} {x10 : Option T} {x11 : Option T} {x12 : Option T} {x13 : Option T} : (wVar 14 (x0 :: x1 :: x2 :: x3 :: x4 :: x5 :: x6 :: x7 :: x8 :: x9 :: x10 :: x11 :: x12 :: x13 :: some t :: l) S R) = (R t S) := propext ⟨fun ⟨_, h, q⟩ => by cases h; exact q, fun q => ⟨_, rfl, q⟩⟩
theorem u_s14 {w : WE} {E : EndsT} {S : Sto} {y : Option T} {t : T} {l : Sl} {x0 : Option T} {x1 : Option T} {x2 : Option T} {x3 : Option T} {x4 : Option T} {x5 : Option T} {x6 : Option T} {x7 : Option T} {x8 : Option T} {x9 : Option T} {x10 : Option T} {x11 : Option T} {x12 : Option T} {x13 : Option T} : (sSet 14 w E (x0 :: x1 :: x2 :: x3 :: x4 :: x5 :: x6 :: x7 :: x8 :: x9 :: x10 :: x11 :: x12 :: x13 :: y :: l) S) = (w (x0 :: x1 :: x2 :: x3 :: x4 :: x5 :: x6 :: x7 :: x8 :: x9 :: x10 :: x11 :: x12 :: x13 :: y :: l) S fun t S' => E.nx (x0 :: x1 :: x2 :: x3 :: x4 :: x5 :: x6 :: x7 :: x8 :: x9 :: x10 :: x11 :: x12 :: x13 :: some t :: l) S') := rfl
theorem u_v15 {S : Sto} {R : Post} {t : T} {l : Sl} {x0 : Option T} {x1 : Option T} {x2 : Option T} {x3 : Option T} {x4 : Option T} {x5 : Option T} {x6 : Option T} {x7 : Option T} {x8 : Option T} {x9 : Option T} {x10 : Option T} {x11 : Option T} {x12 : Option T} {x13 : Option T} {x14 : Option T} : (wVar 15 (x0 :: x1 :: x2 :: x3 :: x4 :: x5 :: x6 :: x7 :: x8 :: x9 :: x10 :: x11 :: x12 :: x13 :: x14 :: some t :: l) S R) = (R t S) := propext ⟨fun ⟨_, h, q⟩ => by cases h; exact q, fun q => ⟨_, rfl, q⟩⟩
theorem u_s15 {w : WE} {E : EndsT} {S : Sto} {y : Option T} {t : T} {l : Sl} {x0 : Option T} {x1 : Option T} {x2 : Option T} {x3 : Option T} {x4 : Option T} {x5 : Option T} {x6 : Option T} {x7 : Option T} {x8 : Option T} {x9 : Option T} {x10 : Option T} {x11 : Option T} {x12 : Option T} {x13 : Option T} {x14 : Option T} : (sSet 15 w E (x0 :: x1 :: x2 :: x3 :: x4 :: x5 :: x6 :: x7 :: x8 :: x9 :: x10 :: x11 :: x12 :: x13 :: x14 :: y :: l) S) = (w (x0 :: x1 :: x2 :: x3 :: x4 :: x5 :: x6 :: x7 :: x8 :: x9 :: x10 :: x11 :: x12 :: x13 :: x14 :: y :: l) S fun t S' => E.nx (x0 :: x1 :: x2 :: x3 :: x4 :: x5 :: x6 :: x7 :: x8 :: x9 :: x10 :: x11 :: x12 :: x13 :: x14 :: some t :: l) S') := rfl
theorem u_v16 {S : Sto} {R : Post} {t : T} {l : Sl} {x0 : Option T} {x1 : Option T} {x2 : Option T} {x3 : Option T} {x4 : Option T} {x5 : Option T} {x6 : Option T} {x7 : Option T} {x8 : Option T} {x9 : Option T} {x10 : Option T} {x11 : Option T} {x12 : Option T} {x13 : Option T} {x14 : Option T} {x15 : Option T} : (wVar 16 (x0 :: x1 :: x2 :: x3 :: x4 :: x5 :: x6 :: x7 :: x8 :: x9 :: x10 :: x11 :: x12 :: x13 :: x14 :: x15 :: some t :: l) S R) = (R t S) := propext ⟨fun ⟨_, h, q⟩ => by cases h; exact q, fun q => ⟨_, rfl, q⟩⟩
theorem u_s16 {w : WE} {E : EndsT} {S : Sto} {y : Option T} {t : T} {l : Sl} {x0 : Option T} {x1 : Option T} {x2 : Option T} {x3 : Option T} {x4 : Option T} {x5 : Option T} {x6 : Option T} {x7 : Option T} {x8 : Option T} {x9 : Option T} {x10 : Option T} {x11 : Option T} {x12 : Option T} {x13 : Option T} {x14 : Option T} {x15 : Option T} : (sSet 16 w E (x0 :: x1 :: x2 :: x3 :: x4 :: x5 :: x6 :: x7 :: x8 :: x9 :: x10 :: x11 :: x12 :: x13 :: x14 :: x15 :: y :: l) S) = (w (x0 :: x1 :: x2 :: x3 :: x4 :: x5 :: x6 :: x7 :: x8 :: x9 :: x10 :: x11 :: x12 :: x13 :: x14 :: x15 :: y :: l) S fun t S' => E.nx (x0 :: x1 :: x2 :: x3 :: x4 :: x5 :: x6 :: x7 :: x8 :: x9 :: x10 :: x11 :: x12 :: x13 :: x14 :: x15 :: some t :: l) S') := rfl
theorem u_v17 {S : Sto} {R : Post} {t : T} {l : Sl} {x0 : Option T} {x1 : Option T} {x2 : Option T} {x3 : Option T} {x4 : Option T} {x5 : Option T} {x6 : Option T} {x7 : Option T} {x8 : Option T} {x9 : Option T} {x10 : Option T} {x11 : Option T} {x12 : Option T} {x13 : Option T} {x14 : Option T} {x15 : Option T} {x16 : Option T} : (wVar 17 (x0 :: x1 :: x2 :: x3 :: x4 :: x5 :: x6 :: x7 :: x8 :: x9 :: x10 :: x11 :: x12 :: x13 :: x14 :: x15 :: x16 :: some t :: l) S R) = (R t S) := propext ⟨fun ⟨_, h, q⟩ => by cases h; exact q, fun q => ⟨_, rfl, q⟩⟩
theorem u_s17 {w : WE} {E : EndsT} {S : Sto} {y : Option T} {t : T} {l : Sl} {x0 : Option T} {x1 : Option T} {x2 : Option T} {x3 : Option T} {x4 : Option T} {x5 : Option T} {x6 : Option T} {x7 : Option T} {x8 : Option T} {x9 : Option T} {x10 : Option T} {x11 : Option T} {x12 : Option T} {x13 : Option T} {x14 : Option T} {x15 : Option T} {x16 : Option T} : (sSet 17 w E (x0 :: x1 :: x2 :: x3 :: x4 :: x5 :: x6 :: x7 :: x8 :: x9 :: x10 :: x11 :: x12 :: x13 :: x14 :: x15 :: x16 :: y :: l) S) = (w (x0 :: x1 :: x2 :: x3 :: x4 :: x5 :: x6 :: x7 :: x8 :: x9 :: x10 :: x11 :: x12 :: x13 :: x14 :: x15 :: x16 :: y :: l) S fun t S' => E.nx (x0 :: x1 :: x2 :: x3 :: x4 :: x5 :: x6 :: x7 :: x8 :: x9 :: x10 :: x11 :: x12 :: x13 :: x14 :: x15 :: x16 :: some t :: l) S') := rfl
theorem u_v18 {S : Sto} {R : Post} {t : T} {l : Sl} {x0 : Option T} {x1 : Option T} {x2 : Option T} {x3 : Option T} {x4 : Option T} {x5 : Option T} {x6 : Option T} {x7 : Option T} {x8 : Option T} {x9 : Option T} {x10 : Option T} {x11 : Option T} {x12 : Option T} {x13 : Option T} {x14 : Option T} {x15 : Option T} {x16 : Option T} {x17 : Option T} : (wVar 18 (x0 :: x1 :: x2 :: x3 :: x4 :: x5 :: x6 :: x7 :: x8 :: x9 :: x10 :: x11 :: x12 :: x13 :: x14 :: x15 :: x16 :: x17 :: some t :: l) S R) = (R t S) := propext ⟨fun ⟨_, h, q⟩ => by cases h; exact q, fun q => ⟨_, rfl, q⟩⟩
theorem u_s18 {w : WE} {E : EndsT} {S : Sto} {y : Option T} {t : T} {l : Sl} {x0 : Option T} {x1 : Option T} {x2 : Option T} {x3 : Option T} {x4 : Option T} {x5 : Option T} {x6 : Option T} {x7 : Option T} {x8 : Option T} {x9 : Option T} {x10 : Option T} {x11 : Option T} {x12 : Option T} {x13 : Option T} {x14 : Option T} {x15 : Option T} {x16 : Option T} {x17 : Option T} : (sSet 18 w E (x0 :: x1 :: x2 :: x3 :: x4 :: x5 :: x6 :: x7 :: x8 :: x9 :: x10 :: x11 :: x12 :: x13 :: x14 :: x15 :: x16 :: x17 :: y :: l) S) = (w (x0 :: x1 :: x2 :: x3 :: x4 :: x5 :: x6 :: x7 :: x8 :: x9 :: x10 :: x11 :: x12 :: x13 :: x14 :: x15 :: x16 :: x17 :: y :: l) S fun t S' => E.nx (x0 :: x1 :: x2 :: x3 :: x4 :: x5 :: x6 :: x7 :: x8 :: x9 :: x10 :: x11 :: x12 :: x13 :: x14 :: x15 :: x16 :: x17 :: some t :: l) S') := rfl
theorem u_v19 {S : Sto} {R : Post} {t : T} {l : Sl} {x0 : Option T} {x1 : Option T} {x2 : Option T} {x3 : Option T} {x4 : Option T} {x5 : Option T} {x6 : Option T} {x7 : Option T} {x8 : Option T} {x9 : Option T} {x10 : Option T} {x11 : Option T} {x12 : Option T} {x13 : Option T} {x14 : Option T} {x15 : Option T} {x16 : Option T} {x17 : Option T} {x18 : Option T} : (wVar 19 (x0 :: x1 :: x2 :: x3 :: x4 :: x5 :: x6 :: x7 :: x8 :: x9 :: x10 :: x11 :: x12 :: x13 :: x14 :: x15 :: x16 :: x17 :: x18 :: some t :: l) S R) = (R t S) := propext ⟨fun ⟨_, h, q⟩ => by cases h; exact q, fun q => ⟨_, rfl, q⟩⟩
theorem u_s19 {w : WE} {E : EndsT} {S : Sto} {y : Option T} {t : T} {l : Sl} {x0 : Option T} {x1 : Option T} {x2 : Option T} {x3 : Option T} {x4 : Option T} {x5 : Option T} {x6 : Option T} {x7 : Option T} {x8 : Option T} {x9 : Option T} {x10 : Option T} {x11 : Option T} {x12 : Option T} {x13 : Option T} {x14 : Option T} {x15 : Option T} {x16 : Option T} {x17 : Option T} {x18 : Option T} : (sSet 19 w E (x0 :: x1 :: x2 :: x3 :: x4 :: x5 :: x6 :: x7 :: x8 :: x9 :: x10 :: x11 :: x12 :: x13 :: x14 :: x15 :: x16 :: x17 :: x18 :: y :: l) S) = (w (x0 :: x1 :: x2 :: x3 :: x4 :: x5 :: x6 :: x7 :: x8 :: x9 :: x10 :: x11 :: x12 :: x13 :: x14 :: x15 :: x16 :: x17 :: x18 :: y :: l) S fun t S' => E.nx (x0 :: x1 :: x2 :: x3 :: x4 :: x5 :: x6 :: x7 :: x8 :: x9 :: x10 :: x11 :: x12 :: x13 :: x14 :: x15 :: x16 :: x17 :: x18 :: some t :: l) S') := rfl
end TL

set_option Elab.async false
set_option linter.all false
set_option maxRecDepth 100000
set_option maxHeartbeats 8000000
namespace TL.K
open PySem L2 PyProof.Rows
def topS (i : Nat) : Stmt := PySem.Challenge.pw_foldapart_k43_what_has_the_form_of_a_gra.main.body.getD i (.Pass ⟨0, 0, 0, 0⟩)
def c_END_PARTS : List (Str × T) := [("jump", .int 2), ("branch", .int 4), ("return", .int 2), ("halt", .int 2)]
def c_OPS : List T := [.str "add", .str "sub", .str "mul", .str "div", .str "rem", .str "less", .str "same", .str "xor"]
def c_PARTS : List (Str × T) := [("const", .int 3), ("copy", .int 3), ("op", .int 5), ("load", .int 3), ("store", .int 3), ("read", .int 4), ("write", .int 4), ("call", .int 4), ("apply", .int 4), ("print", .int 2)]
structure Txt (K : PySem.W.Frag) (W : World) (mg : Str → Option Value) : Prop where
  z_all : mg "all" = none
  z_bool : mg "bool" = none
  z_enumerate : mg "enumerate" = none
  z_int : mg "int" = none
  z_isinstance : mg "isinstance" = none
  z_len : mg "len" = none
  z_list : mg "list" = none
  z_max : mg "max" = none
  z_range : mg "range" = none
  z_sorted : mg "sorted" = none
  z_str : mg "str" = none
  z_sum : mg "sum" = none
  z_tuple : mg "tuple" = none
  z_zip : mg "zip" = none
  g_END_PARTS : KDicS K W mg "END_PARTS" c_END_PARTS
  g_GREATEST_WORD : ∃ t, mg "GREATEST_WORD" = some (.int 65535 t)
  g_LETTERS : ∃ t, mg "LETTERS" = some (.str "abcdefghijklmnopqrstuvwxyz" t)
  g_LONGEST_NAME : ∃ t, mg "LONGEST_NAME" = some (.int 8 t)
  g_MOST_ARGUMENTS : ∃ t, mg "MOST_ARGUMENTS" = some (.int 4 t)
  g_MOST_SIZE : ∃ t, mg "MOST_SIZE" = some (.int 2000 t)
  g_MOST_VARIABLES : ∃ t, mg "MOST_VARIABLES" = some (.int 4000 t)
  g_OPS : KTupS K mg "OPS" c_OPS
  g_PARTS : KDicS K W mg "PARTS" c_PARTS
/-! ### what is asked, in plain terms -/
def wordT (t : T) (n : Int) : Bool := match t with
  | .int i => decide (0 ≤ i) && decide (i < n)
  | _ => false
def letS (c : Nat) : Bool := occ ⟨#[c]⟩ "abcdefghijklmnopqrstuvwxyz"
def partS (z : Str) : Bool := decide (1 ≤ z.length) && decide (z.length ≤ 8) && z.cps.toList.all letS
def nameS (z : Str) : Bool := partS z && !(z == "start")
def fullS (z : Str) : Bool := (Txt.split z ".").all partS && (decide ((Txt.split z ".").length < 3) && !((Txt.split z ".").headD z == "start"))
def fullT (t : T) : Bool := match t with
  | .str z => fullS z
  | _ => false
def operT (t : T) : Bool := match t with
  | .tup ts => (match ts with
    | [x, y] => isStrB x "var" && wordT y 4000
    | _ => false)
  | t => wordT t 65536
def funcT (t : T) : Bool := match t with
  | .tup ts => (match ts with
    | [x, y] => isStrB x "func" && fullT y
    | _ => false)
  | _ => false
def valueT (t : T) : Bool := match t with
  | .tup ts => funcT (.tup ts)
  | t => wordT t 65536
def opersT (t : T) : Bool := match t with
  | .tup ts => ts.all operT
  | _ => false
def opsL : List Str := ["add", "sub", "mul", "div", "rem", "less", "same", "xor"]
def lenB (t : T) (n : Nat) : Bool := match t with
  | .tup ts => decide (ts.length < n)
  | _ => false
def partT (k : Str) (t : T) (blocks : Int) : Bool :=
  if k == "v" || k == "w" then wordT t 4000 || (k == "w" && isNon t)
  else if k == "a" || k == "r" then operT t || (k == "r" && isNon t)
  else if k == "n" || k == "f" then fullT t
  else if k == "o" then opsL.any fun b => isStrB t b
  else if k == "c" then valueT t
  else if k == "s" || k == "t" then opersT t && (k == "s" || lenB t 5)
  else wordT t (if k == "b" then blocks else 65536)
def formsL : List (Str × Str) := [("const", "vc"), ("copy", "vv"), ("op", "voaa"), ("load", "vn"), ("store", "na"), ("read", "vna"), ("write", "naa"), ("call", "wfs"), ("apply", "wvt"), ("print", "a")]
def endsL : List (Str × Str) := [("jump", "b"), ("branch", "abb"), ("return", "r"), ("halt", "k")]
def lookF (z : Str) : List (Str × Str) → Option Str
  | [] => none
  | (k, t) :: kvs => if k = z then some t else lookF z kvs
/-- kinds against items -/
def partsT (blocks : Int) : List Nat → List T → Bool
  | [], [] => true
  | c :: cs, t :: ts => partT ⟨#[c]⟩ t blocks && partsT blocks cs ts
  | _, _ => false
def builtT (fs : List (Str × Str)) (t : T) (blocks : Int) : Bool := match t with
  | .tup ts => (match ts with
    | x :: args => (match x with
      | .str w => (match lookF w fs with
        | some ks => partsT blocks ks.cps.toList args
        | none => false)
      | _ => false)
    | [] => false)
  | _ => false
def blockT (t : T) (blocks : Int) : Bool := match t with
  | .tup ts => (match ts with
    | [x, e] => (match x with
      | .tup rows => (rows.all fun r => builtT formsL r blocks) && builtT endsL e blocks
      | _ => false)
    | _ => false)
  | _ => false
def rowsN (t : T) : Int := match t with
  | .tup (.tup rows :: _) => ((rows.length : Nat) : Int) + 1
  | _ => 0
def graphT (t : T) : Bool := match t with
  | .tup ts => (match ts with
    | [c, x] => (match x with
      | .tup bs => (wordT c 5 && !bs.isEmpty) && ((bs.all fun b => blockT b ((bs.length : Nat) : Int)) && decide ((bs.map rowsN).sum ≤ 2000))
      | _ => false)
    | _ => false)
  | _ => false
/-! ### what may be asked -/
mutual
def GT (S : Sto) : T → Prop
  | .ref a => S a = some (.dK [])
  | .str z => z.length ≤ 1000
  | .arg _ => False
  | .tup ts => ts.length ≤ 10000 ∧ GTs S 0 ts
  | .lst _ => True
  | .non => True
  | .bl _ => True
  | .int _ => True
def GTs (S : Sto) : Nat → List T → Prop
  | _, [] => True
  | i, t :: ts => (i < 3 → plT t = true) ∧ GT S t ∧ GTs S (i + 1) ts
end
theorem gts_get {S : Sto} : ∀ {ts : List T} {k i : Nat} {t : T}, GTs S k ts → ts[i]? = some t → (k + i < 3 → plT t = true) ∧ GT S t
  | [], _, _, _, _, h => by simp at h
  | x :: ts, k, 0, t, g, h => by
    simp only [GTs] at g
    simp at h
    subst h
    exact ⟨g.1, g.2.1⟩
  | x :: ts, k, i + 1, t, g, h => by
    simp only [GTs] at g
    have := gts_get (k := k + 1) (i := i) g.2.2 (by simpa using h)
    exact ⟨fun q => this.1 (by omega), this.2⟩
theorem gts_of {S : Sto} : ∀ {ts : List T} {k : Nat}, (∀ i t, ts[i]? = some t → (k + i < 3 → plT t = true) ∧ GT S t) → GTs S k ts
  | [], _, _ => by simp only [GTs]
  | x :: ts, k, h => by
    simp only [GTs]
    refine ⟨(h 0 x rfl).1, (h 0 x rfl).2, gts_of fun i t e => ?_⟩
    have := h (i + 1) t (by simpa using e)
    exact ⟨fun q => this.1 (by omega), this.2⟩
theorem gt_mem {S : Sto} {ts : List T} (g : GT S (.tup ts)) {t : T} (h : t ∈ ts) : GT S t := by
  simp only [GT] at g
  obtain ⟨i, hi⟩ := List.getElem?_of_mem h
  exact (gts_get g.2 hi).2
theorem gt_len {S : Sto} {ts : List T} (g : GT S (.tup ts)) : ts.length ≤ 10000 := by
  simp only [GT] at g
  exact g.1
theorem gt_pl {S : Sto} {ts : List T} (g : GT S (.tup ts)) {i : Nat} {t : T} (h : ts[i]? = some t) (hi : i < 3) : plT t = true := by
  simp only [GT] at g
  exact (gts_get g.2 h).1 (by omega)
theorem gt_ty {S : Sto} {t : T} (g : GT S t) : (tyT S t).isSome = true := by
  cases t <;> simp [GT] at g <;> simp [tyT]
  rw [g]
  rfl
theorem gt_isa {S : Sto} {t : T} (g : GT S t) : isA "int" S t = (match t with | .int _ => true | .bl _ => true | _ => false) ∧ isA "bool" S t = (match t with | .bl _ => true | _ => false) ∧ isA "str" S t = (match t with | .str _ => true | _ => false) ∧ isA "tuple" S t = (match t with | .tup _ => true | _ => false) := by
  cases t <;> simp [GT] at g <;> simp [isA, tyT, isiB]
  rw [g]
  simp
/-- anywhere -/
def GA (t : T) : Prop := plT t = true ∧ ∀ S, GT S t
/-! ### the deck -/
def Ext (S S' : Sto) : Prop := ∀ x v, S x = some v → S' x = some v
def Dk (a b : Addr) (S : Sto) : Prop := ∃ (ns : List Int) (m d : Int), ns.length ≤ 63 ∧ a ≠ b ∧ S a = some (.dK [(.inr "left", .ref b), (.inr "mixed", .int m), (.inr "draws", .int d)]) ∧ S b = some (.lst (ns.map T.int))
def Kp (a b : Addr) (S S' : Sto) : Prop := ∀ x v, x ≠ a → x ≠ b → S x = some v → S' x = some v
theorem Kp.refl {a b : Addr} {S : Sto} : Kp a b S S := fun _ _ _ _ h => h
theorem Kp.trans {a b : Addr} {S S1 S2 : Sto} (h : Kp a b S S1) (g : Kp a b S1 S2) : Kp a b S S2 := fun x v h1 h2 h3 => g x v h1 h2 (h x v h1 h2 h3)
theorem Ext.refl {S : Sto} : Ext S S := fun _ _ h => h
theorem Ext.trans {S S1 S2 : Sto} (h : Ext S S1) (g : Ext S1 S2) : Ext S S2 := fun x v h1 => g x v (h x v h1)
theorem Ext.kp {a b : Addr} {S S' : Sto} (h : Ext S S') : Kp a b S S' := fun x v _ _ q => h x v q
theorem Ext.dk {a b : Addr} {S S' : Sto} (h : Ext S S') (d : Dk a b S) : Dk a b S' := by
  obtain ⟨ns, m, dd, h1, h2, h3, h4⟩ := d
  exact ⟨ns, m, dd, h1, h2, h _ _ h3, h _ _ h4⟩
theorem ext_new {S : Sto} {p : Addr} {c : Cell} (hp : S p = none) : Ext S (supd S p c) := fun x v h => by
  have : x ≠ p := fun e => by rw [e, hp] at h; cases h
  rw [supd_ne this]; exact h
theorem Dk.na {a b : Addr} {S : Sto} (d : Dk a b S) {p : Addr} (hp : S p = none) : p ≠ a ∧ p ≠ b := by
  obtain ⟨ns, m, dd, h1, h2, h3, h4⟩ := d
  constructor
  · intro e
    rw [e, h3] at hp
    cases hp
  · intro e
    rw [e, h4] at hp
    cases hp
def fD (fs : List (Str × Str)) : List (Key × T) := fs.map fun p => (.inr p.1, .str p.2)
/-- a graph as it is drawn -/
def GB (x : T) : Prop := ∃ rows e, x = .tup [.tup rows, .tup e] ∧ rows.length ≤ 10 ∧ (∀ r ∈ rows, GA r) ∧ GA (.tup e)
def GG (t : T) : Prop := ∃ (c : Int) (bs : List T), t = .tup [.int c, .tup bs] ∧ bs ≠ [] ∧ bs.length ≤ 4 ∧ ∀ x ∈ bs, GB x
def FsOk (fs : List (Str × Str)) : Prop := fs ≠ [] ∧ fs.length < 64 ∧ (fs.map (·.1)).Nodup ∧ (∀ p ∈ fs, p.2.length ≤ 10 ∧ ∀ j : Nat, p.2.cps.toList[j]? = some 111 → j < 2) ∧ (∀ p ∈ fs, p.1.length ≤ 100)
/-! ### what each def promises -/
def spB1 (f : T → Bool) : List T → Sto → Post → Prop := fun ts S R => ∃ t, ts = [t] ∧ GT S t ∧ R (.bl (f t)) S
def sp_size_of : List T → Sto → Post → Prop := fun ts S R => ∃ c bs, ts = [.tup [c, .tup bs]] ∧ bs.length ≤ 10000 ∧ (∀ b ∈ bs, ∃ rows e, b = .tup [.tup rows, e]) ∧ R (.int (bs.map rowsN).sum) S
def sp_is_integer := spB1 fun t => match t with | .int _ => true | _ => false
def sp_is_word := spB1 fun t => wordT t 65536
def sp_is_name : List T → Sto → Post → Prop := fun ts S R => ∃ z, ts = [.str z] ∧ z.length ≤ 1000 ∧ R (.bl (nameS z)) S
def sp_is_full_name := spB1 fullT
def sp_is_function_value := spB1 funcT
def sp_is_value := spB1 valueT
def sp_is_variable := spB1 fun t => wordT t 4000
def sp_is_operand := spB1 operT
def sp_are_operands : List T → Sto → Post → Prop := fun ts S R => ∃ t, ts = [t] ∧ ((∃ xs, t = .tup xs ∧ xs.length ≤ 10000 ∧ ∀ x ∈ xs, GT S x) ∨ GT S t) ∧ R (.bl (opersT t)) S
def hasW (kvs : List (Str × T)) (t : T) : Bool := match t with
  | .tup ts => (match ts with
    | x :: args => (match x with
      | .str w => (match lookS w kvs with
        | some (.int n) => n == (((args.length + 1 : Nat)) : Int)
        | _ => false)
      | _ => false)
    | [] => false)
  | _ => false
def sp_has_word : List T → Sto → Post → Prop := fun ts S R => ∃ t e, ts = [t, .bl e] ∧ GT S t ∧ R (.bl (hasW (if e then c_END_PARTS else c_PARTS) t)) S
def sp_is_instruction := spB1 fun t => builtT formsL t 0
def sp_is_block_number : List T → Sto → Post → Prop := fun ts S R => ∃ t n, ts = [t, .int n] ∧ GT S t ∧ R (.bl (wordT t n)) S
def sp_is_terminator : List T → Sto → Post → Prop := fun ts S R => ∃ t n, ts = [t, .int n] ∧ GT S t ∧ R (.bl (builtT endsL t n)) S
def sp_is_block : List T → Sto → Post → Prop := fun ts S R => ∃ t n, ts = [t, .int n] ∧ GT S t ∧ R (.bl (blockT t n)) S
def sp_is_graph_value := spB1 graphT
def sp_is_graph := spB1 graphT
def sp_law_deck : List T → Sto → Post → Prop := fun ts S R => ∃ ns : List Int, ts = [.arg ns] ∧ ∀ a b S', Ext S S' → S a = none → Dk a b S' → R (.ref a) S'
def sp_law_draw : List T → Sto → Post → Prop := fun ts S R => ∃ a b n, ts = [.ref a, .int n] ∧ Dk a b S ∧ 0 < n ∧ n < 1073741824 ∧ ∀ i S', 0 ≤ i → i < n → Dk a b S' → Kp a b S S' → R (.int i) S'
def sp_law_pick : List T → Sto → Post → Prop := fun ts S R => ∃ a b xs, ts = [.ref a, .lst xs] ∧ Dk a b S ∧ xs ≠ [] ∧ xs.length < 10000 ∧ ∀ t S', t ∈ xs → Dk a b S' → Kp a b S S' → R t S'
def sp_law_shuffled : List T → Sto → Post → Prop := fun ts S R => ∃ a b x xs, ts = [.ref a, x] ∧ Dk a b S ∧ asL S x = some xs ∧ xs.length ≤ 10000 ∧ ∀ c ys S', S c = none → S' c = some (.lst ys) → ys.length = xs.length → (∀ y ∈ ys, y ∈ xs) → Dk a b S' → Kp a b S S' → R (.ref c) S'
def sp_law_is_whole : List T → Sto → Post → Prop := fun ts S R => ∃ t n, ts = [t, .int n] ∧ GT S t ∧ R (.bl (wordT t n)) S
def sp_law_is_full_name := spB1 fullT
def sp_law_is_operand := spB1 operT
def sp_law_is_part : List T → Sto → Post → Prop := fun ts S R => ∃ k t n, ts = [.str k, t, .int n] ∧ GT S t ∧ (k = ⟨#[111]⟩ → plT t = true) ∧ R (.bl (partT k t n)) S
def sp_law_forms : List T → Sto → Post → Prop := fun ts S R => ts = [] ∧ ∀ c S', Ext S S' → S c = none → S' c = some (.dK (fD formsL)) → R (.ref c) S'
def sp_law_is_built : List T → Sto → Post → Prop := fun ts S R => ∃ c t n fs, ts = [.ref c, t, .int n] ∧ S c = some (.dK (fD fs)) ∧ FsOk fs ∧ GT S t ∧ R (.bl (builtT fs t n)) S
def sp_law_is_graph := spB1 graphT
/-- what may stand in the place of a part of this kind -/
def okW (k : Str) (S : Sto) (x : T) : Prop := GT S x ∧ (¬ (k = "s" ∨ k = "t") → plT x = true)
def WrOk (S : Sto) (ks : List Str) (kvs : List (Key × T)) : Prop := kvs ≠ [] ∧ kvs.length ≤ 100 ∧ ∀ k ∈ ks, ∃ xs, valT kvs (.inr k) = some (.lst xs) ∧ xs.length ≤ 1000 ∧ ∀ x ∈ xs, okW k S x
def kinds12 : List Str := ["v", "w", "a", "r", "n", "f", "o", "c", "s", "t", "k"]
def sp_law_wrongs : List T → Sto → Post → Prop := fun ts S R => ts = [] ∧ ∀ c kvs S', Ext S S' → S c = none → S' c = some (.dK kvs) → WrOk S' kinds12 kvs → R (.ref c) S'
def sp_law_right : List T → Sto → Post → Prop := fun ts S R => ∃ a b k n, ts = [.ref a, .str k, .int n] ∧ Dk a b S ∧ 0 < n ∧ n < 1073741824 ∧ ∀ t S', GA t → Dk a b S' → Kp a b S S' → R t S'
def sp_law_built : List T → Sto → Post → Prop := fun ts S R => ∃ a b c n fs, ts = [.ref a, .ref c, .int n] ∧ Dk a b S ∧ S c = some (.dK (fD fs)) ∧ FsOk fs ∧ 0 < n ∧ n < 1073741824 ∧
  ∀ w ks args S', lookF w fs = some ks → args.length = ks.length → (∀ x ∈ args, GA x) → Dk a b S' → Kp a b S S' → R (.tup (.str w :: args)) S'
def sp_law_graph : List T → Sto → Post → Prop := fun ts S R => ∃ a b, ts = [.ref a] ∧ Dk a b S ∧ ∀ t S', GG t → Dk a b S' → Kp a b S S' → R t S'
def sp_law_put : List T → Sto → Post → Prop := fun ts S R => ∃ c bs i x, ts = [.tup [c, .tup bs], .int i, x] ∧ 0 ≤ i ∧ i < ((bs.length : Nat) : Int) ∧ bs.length ≤ 1000 ∧ R (.tup [c, .tup (bs.take i.toNat ++ [x] ++ bs.drop (i.toNat + 1))]) S
def sp_law_near_rows : List T → Sto → Post → Prop := fun ts S R => ∃ a b c n fs w ks args, ts = [.ref a, .ref c, .tup (.str w :: args), .int n] ∧ Dk a b S ∧ S c = some (.dK (fD fs)) ∧ FsOk fs ∧ 0 < n ∧ n < 1073741824 ∧ lookF w fs = some ks ∧ args.length = ks.length ∧ (∀ x ∈ args, GA x) ∧ (∀ (j : Nat) (cc : Nat), ks.cps.toList[j]? = some cc → (⟨#[cc]⟩ : Str) ∈ ("b" : Str) :: kinds12 ∧ ((⟨#[cc]⟩ : Str) = "s" ∨ (⟨#[cc]⟩ : Str) = "t" → 2 ≤ j)) ∧
  ∀ d xs S', S d = none → S' d = some (.lst xs) → xs.length ≤ 10000 → (∀ x ∈ xs, GT S' x ∧ plT x = true) → Dk a b S' → Kp a b S S' → R (.ref d) S'
def sp_law_near_graphs : List T → Sto → Post → Prop := fun ts S R => ∃ a b t, ts = [.ref a, t] ∧ GG t ∧ Dk a b S ∧ ∀ xs S', xs.length ≤ 10000 → (∀ x ∈ xs, GT S' x) → Dk a b S' → Kp a b S S' → R (.lst xs) S'
def sp_law_great : List T → Sto → Post → Prop := fun ts S R => ∃ a b, ts = [.ref a] ∧ Dk a b S ∧ ∀ t S', (∀ S, GT S t) → Dk a b S' → Kp a b S S' → R t S'
def sp_law : List T → Sto → Post → Prop := fun ts S R => ∃ ns : List Int, ts = [.arg ns] ∧ ∀ S', R (.bl true) S'
def w_size_of : WS :=
  (sRet (wCall oSum (wCons (wLc (wItems (wOp oIx (wVar 0) (wC (.int 1)))) (.tp (.cons (.nm 1) (.cons (.nm 2) .nil))) wYes (wOp oAdd (wCall oLen (wCons (wVar 1) wNil)) (wC (.int 1))) [1, 2]) wNil)))
def w_is_integer : WS :=
  (sRet (wAndV (wIsi "int" (wVar 0)) (wNotV (wIsi "bool" (wVar 0)))))
def w_is_word : WS :=
  (sRet (wAndV (wCall sp_is_integer (wCons (wVar 0) wNil)) (wChain oLe oLe (wC (.int 0)) (wVar 0) (wC (.int 65535)))))
def w_is_name : WS :=
  (sSeq (sIf (wOr (wNot (wTru (wIsi "str" (wVar 0)))) (wOr (wNot (wTst (wChain oLe oLe (wC (.int 1)) (wCall oLen (wCons (wVar 0) wNil)) (wC (.int 8))))) (wTst (wOp oEq (wVar 0) (wC (.str "start"))))))
    (sRet (wC (.bl false)))
    sNext)
  (sRet (wCall oAll (wCons (wLc (wItems (wVar 0)) (.nm 1) wYes (wOp (oIn false) (wVar 1) (wC (.str "abcdefghijklmnopqrstuvwxyz"))) [1]) wNil))))
def w_is_full_name : WS :=
  (sSeq (sIf (wNot (wTru (wIsi "str" (wVar 0))))
    (sRet (wC (.bl false)))
    sNext)
  (sSeq (sSet 1 (wMeth "str" oSplit (wVar 0) (wCons (wC (.str ".")) wNil)))
  (sSeq (sIf (wTst (wOp oEq (wCall oLen (wCons (wVar 1) wNil)) (wC (.int 1))))
    (sRet (wCall sp_is_name (wCons (wVar 0) wNil)))
    sNext)
  (sRet (wAndV (wOp oEq (wCall oLen (wCons (wVar 1) wNil)) (wC (.int 2))) (wAndV (wCall sp_is_name (wCons (wOp oIx (wVar 1) (wC (.int 0))) wNil)) (wOrV (wCall sp_is_name (wCons (wOp oIx (wVar 1) (wC (.int 1))) wNil)) (wOp oEq (wOp oIx (wVar 1) (wC (.int 1))) (wC (.str "start"))))))))))
def w_is_function_value : WS :=
  (sRet (wAndV (wIsi "tuple" (wVar 0)) (wAndV (wOp oEq (wCall oLen (wCons (wVar 0) wNil)) (wC (.int 2))) (wAndV (wOp oEq (wOp oIx (wVar 0) (wC (.int 0))) (wC (.str "func"))) (wCall sp_is_full_name (wCons (wOp oIx (wVar 0) (wC (.int 1))) wNil))))))
def w_is_value : WS :=
  (sRet (wOrV (wCall sp_is_word (wCons (wVar 0) wNil)) (wCall sp_is_function_value (wCons (wVar 0) wNil))))
def w_is_variable : WS :=
  (sRet (wAndV (wCall sp_is_integer (wCons (wVar 0) wNil)) (wChain oLe oLt (wC (.int 0)) (wVar 0) (wC (.int 4000)))))
def w_is_operand : WS :=
  (sSeq (sIf (wTru (wIsi "tuple" (wVar 0)))
    (sRet (wAndV (wOp oEq (wCall oLen (wCons (wVar 0) wNil)) (wC (.int 2))) (wAndV (wOp oEq (wOp oIx (wVar 0) (wC (.int 0))) (wC (.str "var"))) (wAndV (wIsi "str" (wOp oIx (wVar 0) (wC (.int 0)))) (wCall sp_is_variable (wCons (wOp oIx (wVar 0) (wC (.int 1))) wNil))))))
    sNext)
  (sRet (wCall sp_is_word (wCons (wVar 0) wNil))))
def w_are_operands : WS :=
  (sRet (wAndV (wIsi "tuple" (wVar 0)) (wCall oAll (wCons (wLc (wItems (wVar 0)) (.nm 1) wYes (wCall sp_is_operand (wCons (wVar 1) wNil)) [1]) wNil))))
def w_has_word : WS :=
  (sSeq (sIf (wOr (wNot (wTru (wIsi "tuple" (wVar 0)))) (wOr (wTst (wOp oEq (wVar 0) (wTup wNil))) (wNot (wTru (wIsi "str" (wOp oIx (wVar 0) (wC (.int 0))))))))
    (sRet (wC (.bl false)))
    sNext)
  (sRet (wOp oEq (wIfE (wTru (wVar 1)) (wKGet c_END_PARTS (wOp oIx (wVar 0) (wC (.int 0)))) (wKGet c_PARTS (wOp oIx (wVar 0) (wC (.int 0))))) (wCall oLen (wCons (wVar 0) wNil)))))
def w_is_instruction : WS :=
  (sSeq (sIf (wNot (wTru (wCall sp_has_word (wCons (wVar 0) (wCons (wC (.bl false)) wNil)))))
    (sRet (wC (.bl false)))
    sNext)
  (sSeq (sSet 1 (wOp oIx (wVar 0) (wC (.int 0))))
  (sSeq (sIf (wTst (wOp oEq (wVar 1) (wC (.str "const"))))
    (sRet (wAndV (wCall sp_is_variable (wCons (wOp oIx (wVar 0) (wC (.int 1))) wNil)) (wCall sp_is_value (wCons (wOp oIx (wVar 0) (wC (.int 2))) wNil))))
    sNext)
  (sSeq (sIf (wTst (wOp oEq (wVar 1) (wC (.str "copy"))))
    (sRet (wAndV (wCall sp_is_variable (wCons (wOp oIx (wVar 0) (wC (.int 1))) wNil)) (wCall sp_is_variable (wCons (wOp oIx (wVar 0) (wC (.int 2))) wNil))))
    sNext)
  (sSeq (sIf (wTst (wOp oEq (wVar 1) (wC (.str "op"))))
    (sRet (wAndV (wCall sp_is_variable (wCons (wOp oIx (wVar 0) (wC (.int 1))) wNil)) (wAndV (wIsi "str" (wOp oIx (wVar 0) (wC (.int 2)))) (wAndV (wInK false c_OPS (wOp oIx (wVar 0) (wC (.int 2)))) (wCall sp_are_operands (wCons (wSl (wVar 0) (wPart (wC (.int 3))) wNoPart) wNil))))))
    sNext)
  (sSeq (sIf (wTst (wOp (oIn false) (wVar 1) (wTup (wCons (wC (.str "load")) (wCons (wC (.str "read")) wNil)))))
    (sRet (wAndV (wCall sp_is_variable (wCons (wOp oIx (wVar 0) (wC (.int 1))) wNil)) (wAndV (wCall sp_is_full_name (wCons (wOp oIx (wVar 0) (wC (.int 2))) wNil)) (wCall sp_are_operands (wCons (wSl (wVar 0) (wPart (wC (.int 3))) wNoPart) wNil)))))
    sNext)
  (sSeq (sIf (wTst (wOp (oIn false) (wVar 1) (wTup (wCons (wC (.str "store")) (wCons (wC (.str "write")) wNil)))))
    (sRet (wAndV (wCall sp_is_full_name (wCons (wOp oIx (wVar 0) (wC (.int 1))) wNil)) (wCall sp_are_operands (wCons (wSl (wVar 0) (wPart (wC (.int 2))) wNoPart) wNil))))
    sNext)
  (sSeq (sIf (wTst (wOp oEq (wVar 1) (wC (.str "print"))))
    (sRet (wCall sp_is_operand (wCons (wOp oIx (wVar 0) (wC (.int 1))) wNil)))
    sNext)
  (sSeq (sIf (wOr (wNot (wOr (wTst (wOp oIs (wOp oIx (wVar 0) (wC (.int 1))) (wC .non))) (wTru (wCall sp_is_variable (wCons (wOp oIx (wVar 0) (wC (.int 1))) wNil))))) (wNot (wTru (wCall sp_are_operands (wCons (wOp oIx (wVar 0) (wC (.int 3))) wNil)))))
    (sRet (wC (.bl false)))
    sNext)
  (sRet (wIfE (wTst (wOp oEq (wVar 1) (wC (.str "call")))) (wCall sp_is_full_name (wCons (wOp oIx (wVar 0) (wC (.int 2))) wNil)) (wAndV (wCall sp_is_variable (wCons (wOp oIx (wVar 0) (wC (.int 2))) wNil)) (wOp oLe (wCall oLen (wCons (wOp oIx (wVar 0) (wC (.int 3))) wNil)) (wC (.int 4)))))))))))))))
def w_is_block_number : WS :=
  (sRet (wAndV (wCall sp_is_integer (wCons (wVar 0) wNil)) (wChain oLe oLt (wC (.int 0)) (wVar 0) (wVar 1))))
def w_is_terminator : WS :=
  (sSeq (sIf (wNot (wTru (wCall sp_has_word (wCons (wVar 0) (wCons (wC (.bl true)) wNil)))))
    (sRet (wC (.bl false)))
    sNext)
  (sSeq (sSet 2 (wOp oIx (wVar 0) (wC (.int 0))))
  (sSeq (sIf (wTst (wOp oEq (wVar 2) (wC (.str "jump"))))
    (sRet (wCall sp_is_block_number (wCons (wOp oIx (wVar 0) (wC (.int 1))) (wCons (wVar 1) wNil))))
    sNext)
  (sSeq (sIf (wTst (wOp oEq (wVar 2) (wC (.str "branch"))))
    (sRet (wAndV (wCall sp_is_operand (wCons (wOp oIx (wVar 0) (wC (.int 1))) wNil)) (wCall oAll (wCons (wLc (wItems (wSl (wVar 0) (wPart (wC (.int 2))) wNoPart)) (.nm 3) wYes (wCall sp_is_block_number (wCons (wVar 3) (wCons (wVar 1) wNil))) [3]) wNil))))
    sNext)
  (sSeq (sIf (wTst (wOp oEq (wVar 2) (wC (.str "return"))))
    (sRet (wOrV (wOp oIs (wOp oIx (wVar 0) (wC (.int 1))) (wC .non)) (wCall sp_is_operand (wCons (wOp oIx (wVar 0) (wC (.int 1))) wNil))))
    sNext)
  (sRet (wCall sp_is_word (wCons (wOp oIx (wVar 0) (wC (.int 1))) wNil))))))))
def w_is_block : WS :=
  (sSeq (sIf (wOr (wNot (wTru (wIsi "tuple" (wVar 0)))) (wOr (wTst (wOp oNe (wCall oLen (wCons (wVar 0) wNil)) (wC (.int 2)))) (wNot (wTru (wIsi "tuple" (wOp oIx (wVar 0) (wC (.int 0))))))))
    (sRet (wC (.bl false)))
    sNext)
  (sRet (wAndV (wCall oAll (wCons (wLc (wItems (wOp oIx (wVar 0) (wC (.int 0)))) (.nm 2) wYes (wCall sp_is_instruction (wCons (wVar 2) wNil)) [2]) wNil)) (wCall sp_is_terminator (wCons (wOp oIx (wVar 0) (wC (.int 1))) (wCons (wVar 1) wNil))))))
def w_is_graph_value : WS :=
  (sSeq (sIf (wOr (wNot (wTru (wIsi "tuple" (wVar 0)))) (wOr (wTst (wOp oNe (wCall oLen (wCons (wVar 0) wNil)) (wC (.int 2)))) (wOr (wNot (wTru (wIsi "tuple" (wOp oIx (wVar 0) (wC (.int 1)))))) (wTst (wOp oEq (wOp oIx (wVar 0) (wC (.int 1))) (wTup wNil))))))
    (sRet (wC (.bl false)))
    sNext)
  (sSeq (sIf (wOr (wNot (wTru (wCall sp_is_integer (wCons (wOp oIx (wVar 0) (wC (.int 0))) wNil)))) (wNot (wTst (wChain oLe oLe (wC (.int 0)) (wOp oIx (wVar 0) (wC (.int 0))) (wC (.int 4))))))
    (sRet (wC (.bl false)))
    sNext)
  (sRet (wAndV (wCall oAll (wCons (wLc (wItems (wOp oIx (wVar 0) (wC (.int 1)))) (.nm 1) wYes (wCall sp_is_block (wCons (wVar 1) (wCons (wCall oLen (wCons (wOp oIx (wVar 0) (wC (.int 1))) wNil)) wNil))) [1]) wNil)) (wOp oLe (wCall sp_size_of (wCons (wVar 0) wNil)) (wC (.int 2000)))))))
def w_is_graph : WS :=
  (sRet (wCall sp_is_graph_value (wCons (wVar 0) wNil)))
def w_law_deck : WS :=
  (sSeq (sSet 1 (wC (.int 16396043)))
  (sSeq (sFor (wItems (wSl (wVar 0) wNoPart (wPart (wC (.int 63))))) (.nm 2)
    (sSet 1 (wOp oMod (wCall oInt1 (wCons (wOp oAdd (wOp oAdd (wOp oMul (wVar 1) (wC (.int 48271))) (wOp oMod (wCall oInt1 (wCons (wVar 2) wNil)) (wC (.int 2305843009213693921)))) (wC (.int 41))) wNil)) (wC (.int 2305843009213693951)))))
  (sRet (wDisp (((wC (.str "left")), (wRevC (wCall oList (wCons (wSl (wVar 0) wNoPart (wPart (wC (.int 63)))) wNil)))) :: (((wC (.str "mixed")), (wVar 1)) :: (((wC (.str "draws")), (wC (.int 0))) :: [])))))))
def w_law_draw : WS :=
  (sSeq (sDPutT (wVar 0) (wC (.str "draws")) (wOp oAdd (wDGet (wVar 0) (wC (.str "draws"))) (wC (.int 1))))
  (sSeq (sSet 2 (wOp oAdd (wDGet (wVar 0) (wC (.str "mixed"))) (wOp oMul (wC (.int 1099511627791)) (wDGet (wVar 0) (wC (.str "draws"))))))
  (sSeq (sIf (wTst (wOp oNe (wDGet (wVar 0) (wC (.str "left"))) (wLst wNil)))
    (sSeq (sSet 3 (wMeth "list" oPop0 (wDGet (wVar 0) (wC (.str "left"))) wNil))
  (sSeq (sIf (wTst (wOp oGe (wVar 3) (wOp oPow (wC (.int 10)) (wC (.int 18)))))
    (sSeq (sDrop (wMeth "list" oAppend (wDGet (wVar 0) (wC (.str "left"))) (wCons (wOp oDiv (wVar 3) (wCall oMax2 (wCons (wC (.int 2)) (wCons (wVar 1) wNil)))) wNil)))
  (sRet (wOp oMod (wCall oInt1 (wCons (wVar 3) wNil)) (wVar 1))))
    sNext)
  (sSet 2 (wOp oAdd (wVar 2) (wOp oMod (wCall oInt1 (wCons (wVar 3) wNil)) (wC (.int 2305843009213693921)))))))
    sNext)
  (sSeq (sSet 2 (wOp oMod (wCall oInt1 (wCons (wOp oAdd (wOp oMul (wVar 2) (wC (.int 6364136223846793005))) (wC (.int 1442695040888963407))) wNil)) (wC (.int 2305843009213693951))))
  (sSeq (sSet 2 (wOp oMod (wCall oInt1 (wCons (wOp oAdd (wOp oAdd (wOp oMul (wVar 2) (wVar 2)) (wOp oMul (wC (.int 2862933555777941757)) (wDGet (wVar 0) (wC (.str "draws"))))) (wC (.int 19))) wNil)) (wC (.int 2305843009213693951))))
  (sRet (wOp oMod (wCall oInt1 (wCons (wOp oDiv (wVar 2) (wC (.int 4096))) wNil)) (wVar 1))))))))
def w_law_pick : WS :=
  (sRet (wOp oIx (wVar 1) (wCall sp_law_draw (wCons (wVar 0) (wCons (wCall oLen (wCons (wVar 1) wNil)) wNil)))))
def w_law_shuffled : WS :=
  (sSeq (sPar 2 3 (wCall oListC (wCons (wVar 1) wNil)) (wCell wNil))
  (sSeq (sFor (wRng1 (wCall oLen (wCons (wVar 2) wNil))) (.nm 4)
    (sDrop (wMeth "list" oAppend (wVar 3) (wCons (wMeth "list" oPopAt (wVar 2) (wCons (wCall sp_law_draw (wCons (wVar 0) (wCons (wCall oLen (wCons (wVar 2) wNil)) wNil))) wNil)) wNil))))
  (sRet (wVar 3))))
def w_law_is_whole : WS :=
  (sRet (wAndV (wIsi "int" (wVar 0)) (wAndV (wNotV (wIsi "bool" (wVar 0))) (wChain oLe oLt (wC (.int 0)) (wVar 0) (wVar 1)))))
def w_law_is_full_name : WS :=
  (sSeq (sIf (wNot (wTru (wIsi "str" (wVar 0))))
    (sRet (wC (.bl false)))
    sNext)
  (sSeq (sSet 1 (wMeth "str" oSplit (wVar 0) (wCons (wC (.str ".")) wNil)))
  (sSeq (sFor (wItems (wVar 1)) (.nm 2)
    (sIf (wOr (wNot (wTst (wChain oLe oLe (wC (.int 1)) (wCall oLen (wCons (wVar 2) wNil)) (wC (.int 8))))) (wTst (wOp oNe (wLc (wItems (wVar 2)) (.nm 3) (wTst (wOp (oIn true) (wVar 3) (wC (.str "abcdefghijklmnopqrstuvwxyz")))) (wC (.int 1)) [3]) (wLst wNil))))
    (sRet (wC (.bl false)))
    sNext))
  (sRet (wAndV (wOp oLt (wCall oLen (wCons (wVar 1) wNil)) (wC (.int 3))) (wOp oNe (wOp oIx (wVar 1) (wC (.int 0))) (wC (.str "start"))))))))
def w_law_is_operand : WS :=
  (sSeq (sIf (wTru (wIsi "tuple" (wVar 0)))
    (sRet (wAndV (wOp oEq (wCall oLen (wCons (wVar 0) wNil)) (wC (.int 2))) (wAndV (wOp oEq (wOp oIx (wVar 0) (wC (.int 0))) (wC (.str "var"))) (wCall sp_law_is_whole (wCons (wOp oIx (wVar 0) (wC (.int 1))) (wCons (wC (.int 4000)) wNil))))))
    sNext)
  (sRet (wCall sp_law_is_whole (wCons (wVar 0) (wCons (wC (.int 65536)) wNil)))))
def w_law_is_part : WS :=
  (sSeq (sIf (wOr (wTst (wOp oEq (wVar 0) (wC (.str "v")))) (wTst (wOp oEq (wVar 0) (wC (.str "w")))))
    (sRet (wOrV (wCall sp_law_is_whole (wCons (wVar 1) (wCons (wC (.int 4000)) wNil))) (wAndV (wOp oEq (wVar 0) (wC (.str "w"))) (wOp oIs (wVar 1) (wC .non)))))
    sNext)
  (sSeq (sIf (wOr (wTst (wOp oEq (wVar 0) (wC (.str "a")))) (wTst (wOp oEq (wVar 0) (wC (.str "r")))))
    (sRet (wOrV (wCall sp_law_is_operand (wCons (wVar 1) wNil)) (wAndV (wOp oEq (wVar 0) (wC (.str "r"))) (wOp oIs (wVar 1) (wC .non)))))
    sNext)
  (sSeq (sIf (wTst (wOp (oIn false) (wVar 0) (wTup (wCons (wC (.str "n")) (wCons (wC (.str "f")) wNil)))))
    (sRet (wCall sp_law_is_full_name (wCons (wVar 1) wNil)))
    sNext)
  (sSeq (sIf (wTst (wOp oEq (wVar 0) (wC (.str "o"))))
    (sRet (wOp (oIn false) (wVar 1) (wTup (wCons (wC (.str "add")) (wCons (wC (.str "sub")) (wCons (wC (.str "mul")) (wCons (wC (.str "div")) (wCons (wC (.str "rem")) (wCons (wC (.str "less")) (wCons (wC (.str "same")) (wCons (wC (.str "xor")) wNil)))))))))))
    sNext)
  (sSeq (sIf (wTst (wOp oEq (wVar 0) (wC (.str "c"))))
    (sSeq (sIf (wTru (wIsi "tuple" (wVar 1)))
    (sRet (wAndV (wOp oEq (wCall oLen (wCons (wVar 1) wNil)) (wC (.int 2))) (wAndV (wOp oEq (wOp oIx (wVar 1) (wC (.int 0))) (wC (.str "func"))) (wCall sp_law_is_full_name (wCons (wOp oIx (wVar 1) (wC (.int 1))) wNil)))))
    sNext)
  (sRet (wCall sp_law_is_whole (wCons (wVar 1) (wCons (wC (.int 65536)) wNil)))))
    sNext)
  (sSeq (sIf (wOr (wTst (wOp oEq (wVar 0) (wC (.str "s")))) (wTst (wOp oEq (wVar 0) (wC (.str "t")))))
    (sRet (wAndV (wIsi "tuple" (wVar 1)) (wAndV (wOp oEq (wLc (wItems (wVar 1)) (.nm 3) (wNot (wTru (wCall sp_law_is_operand (wCons (wVar 3) wNil)))) (wC (.int 1)) [3]) (wLst wNil)) (wOrV (wOp oEq (wVar 0) (wC (.str "s"))) (wOp oLt (wCall oLen (wCons (wVar 1) wNil)) (wC (.int 5)))))))
    sNext)
  (sRet (wCall sp_law_is_whole (wCons (wVar 1) (wCons (wIfE (wTst (wOp oEq (wVar 0) (wC (.str "b")))) (wVar 2) (wC (.int 65536))) wNil))))))))))
def w_law_forms : WS :=
  (sSeq (sSet 0 (wDisp (((wC (.str "const")), (wC (.str "vc"))) :: (((wC (.str "copy")), (wC (.str "vv"))) :: (((wC (.str "op")), (wC (.str "voaa"))) :: (((wC (.str "load")), (wC (.str "vn"))) :: (((wC (.str "store")), (wC (.str "na"))) :: (((wC (.str "read")), (wC (.str "vna"))) :: (((wC (.str "write")), (wC (.str "naa"))) :: [])))))))))
  (sSeq (sDrop (wMeth "dict" oUpdate (wVar 0) (wCons (wDisp (((wC (.str "call")), (wC (.str "wfs"))) :: (((wC (.str "apply")), (wC (.str "wvt"))) :: (((wC (.str "print")), (wC (.str "a"))) :: [])))) wNil)))
  (sRet (wVar 0))))
def w_law_is_built : WS :=
  (sSeq (sIf (wOr (wNot (wTru (wIsi "tuple" (wVar 1)))) (wOr (wTst (wOp oEq (wVar 1) (wTup wNil))) (wOr (wNot (wTru (wIsi "str" (wOp oIx (wVar 1) (wC (.int 0)))))) (wTst (wDIn true (wOp oIx (wVar 1) (wC (.int 0))) (wVar 0))))))
    (sRet (wC (.bl false)))
    sNext)
  (sSeq (sSet 3 (wDGet (wVar 0) (wOp oIx (wVar 1) (wC (.int 0)))))
  (sSeq (sIf (wTst (wOp oNe (wCall oLen (wCons (wVar 1) wNil)) (wOp oAdd (wCall oLen (wCons (wVar 3) wNil)) (wC (.int 1)))))
    (sRet (wC (.bl false)))
    sNext)
  (sRet (wOp oEq (wLc (wZip (wVar 3) (wSl (wVar 1) (wPart (wC (.int 1))) wNoPart)) (.tp (.cons (.nm 4) (.cons (.nm 5) .nil))) (wNot (wTru (wCall sp_law_is_part (wCons (wVar 4) (wCons (wVar 5) (wCons (wVar 2) wNil)))))) (wC (.int 1)) [4, 5]) (wLst wNil))))))
def w_law_is_graph : WS :=
  (sSeq (sIf (wOr (wNot (wTru (wIsi "tuple" (wVar 0)))) (wOr (wTst (wOp oNe (wCall oLen (wCons (wVar 0) wNil)) (wC (.int 2)))) (wNot (wTru (wCall sp_law_is_whole (wCons (wOp oIx (wVar 0) (wC (.int 0))) (wCons (wC (.int 5)) wNil)))))))
    (sRet (wC (.bl false)))
    sNext)
  (sSeq (sAsg (.tp (.cons (.nm 1) (.cons (.nm 2) .nil))) (wTup (wCons (wOp oIx (wVar 0) (wC (.int 1))) (wCons (wC (.int 0)) wNil))))
  (sSeq (sIf (wOr (wNot (wTru (wIsi "tuple" (wVar 1)))) (wTst (wOp oEq (wVar 1) (wTup wNil))))
    (sRet (wC (.bl false)))
    sNext)
  (sSeq (sAsg (.tp (.cons (.nm 3) (.cons (.nm 4) .nil))) (wTup (wCons (wDisp (((wC (.str "jump")), (wC (.str "b"))) :: (((wC (.str "branch")), (wC (.str "abb"))) :: (((wC (.str "return")), (wC (.str "r"))) :: (((wC (.str "halt")), (wC (.str "k"))) :: []))))) (wCons (wCall sp_law_forms wNil) wNil))))
  (sSeq (sFor (wItems (wVar 1)) (.nm 5)
    (sSeq (sIf (wOr (wNot (wTru (wIsi "tuple" (wVar 5)))) (wOr (wTst (wOp oNe (wCall oLen (wCons (wVar 5) wNil)) (wC (.int 2)))) (wNot (wTru (wIsi "tuple" (wOp oIx (wVar 5) (wC (.int 0))))))))
    (sRet (wC (.bl false)))
    sNext)
  (sSeq (sSet 2 (wOp oAdd (wOp oAdd (wVar 2) (wCall oLen (wCons (wOp oIx (wVar 5) (wC (.int 0))) wNil))) (wC (.int 1))))
  (sSeq (sIf (wNot (wTru (wCall sp_law_is_built (wCons (wVar 3) (wCons (wOp oIx (wVar 5) (wC (.int 1))) (wCons (wCall oLen (wCons (wVar 1) wNil)) wNil))))))
    (sRet (wC (.bl false)))
    sNext)
  (sIf (wTst (wOp oNe (wLc (wItems (wOp oIx (wVar 5) (wC (.int 0)))) (.nm 6) (wNot (wTru (wCall sp_law_is_built (wCons (wVar 4) (wCons (wVar 6) (wCons (wCall oLen (wCons (wVar 1) wNil)) wNil)))))) (wC (.int 1)) [6]) (wLst wNil)))
    (sRet (wC (.bl false)))
    sNext)))))
  (sRet (wOp oLe (wVar 2) (wC (.int 2000)))))))))
def w_law_wrongs : WS :=
  (sSeq (sSet 0 (wLst (wCons (wUn oNeg (wC (.int 1))) (wCons (wC (.bl true)) (wCons (wC .non) (wCons (wC (.str "0")) (wCons (wTup (wCons (wC (.int 0)) wNil)) (wCons (wOp oPow (wC (.int 10)) (wC (.int 30))) (wCons (wLst wNil) (wCons (wC (.bl false)) wNil))))))))))
  (sSeq (sSet 1 (wDisp (((wC (.str "v")), (wOp oAdd (wVar 0) (wLst (wCons (wC (.int 4000)) (wCons (wTup (wCons (wC (.str "var")) (wCons (wC (.int 0)) wNil))) wNil))))) :: (((wC (.str "w")), (wOp oAdd (wLc (wItems (wVar 0)) (.nm 2) (wTst (wOp oIsNot (wVar 2) (wC .non))) (wVar 2) [2]) (wLst (wCons (wC (.int 4000)) (wCons (wTup (wCons (wC (.str "var")) (wCons (wC (.int 1)) wNil))) wNil))))) :: []))))
  (sSeq (sDPutT (wVar 1) (wC (.str "a")) (wOp oAdd (wVar 0) (wLst (wCons (wC (.int 65536)) (wCons (wTup (wCons (wC (.str "var")) wNil)) (wCons (wTup (wCons (wC (.str "var")) (wCons (wUn oNeg (wC (.int 1))) wNil))) (wCons (wTup (wCons (wC (.str "var")) (wCons (wC (.bl true)) wNil))) (wCons (wTup (wCons (wC (.str "var")) (wCons (wC (.int 4000)) wNil))) (wCons (wTup (wCons (wC (.str "var")) (wCons (wC (.str "0")) wNil))) (wCons (wLst (wCons (wC (.str "var")) (wCons (wC (.int 0)) wNil))) (wCons (wTup (wCons (wC (.str "func")) (wCons (wC (.str "f")) wNil))) wNil)))))))))))
  (sSeq (sDPutT (wVar 1) (wC (.str "a")) (wOp oAdd (wDGet (wVar 1) (wC (.str "a"))) (wLst (wCons (wTup (wCons (wC (.str "word")) (wCons (wC (.int 3)) wNil))) (wCons (wTup (wCons (wC (.str "var")) (wCons (wC (.int 0)) (wCons (wC (.int 0)) wNil)))) (wCons (wTup (wCons (wC (.str "Var")) (wCons (wC (.int 0)) wNil))) (wCons (wTup (wCons (wTup wNil) (wCons (wC (.int 0)) wNil))) (wCons (wTup (wCons (wC (.str "var")) (wCons (wC .non) wNil))) wNil))))))))
  (sSeq (sDPutT (wVar 1) (wC (.str "r")) (wOp oAdd (wLc (wItems (wDGet (wVar 1) (wC (.str "a")))) (.nm 2) (wTst (wOp oIsNot (wVar 2) (wC .non))) (wVar 2) [2]) (wLst (wCons (wTup wNil) wNil))))
  (sSeq (sDPutT (wVar 1) (wC (.str "n")) (wOp oAdd (wVar 0) (wLst (wCons (wC (.str "")) (wCons (wC (.str "start")) (wCons (wC (.str "A")) (wCons (wC (.str "a.b.c")) (wCons (wC (.str "abcdefghi")) (wCons (wC (.str ".a")) (wCons (wC (.str "a.")) (wCons (wC (.str "a b")) (wCons (wC (.str "f1")) (wCons (wC (.str "start.f")) (wCons (wTup (wCons (wC (.str "f")) wNil)) (wCons (wC (.str "a..b")) (wCons (wC (.str "a.bcdefghij")) wNil))))))))))))))))
  (sSeq (sDPutT (wVar 1) (wC (.str "f")) (wOp oAdd (wDGet (wVar 1) (wC (.str "n"))) (wLst (wCons (wC (.str "start.start")) (wCons (wC (.str "m.starts.a")) (wCons (wC (.str "M.start")) wNil))))))
  (sSeq (sDPutT (wVar 1) (wC (.str "o")) (wOp oAdd (wVar 0) (wLst (wCons (wC (.str "pow")) (wCons (wC (.str "ADD")) (wCons (wC (.str "")) (wCons (wC (.str "add ")) (wCons (wC (.str "and")) (wCons (wTup (wCons (wC (.str "add")) wNil)) (wCons (wC (.str "addd")) wNil))))))))))
  (sSeq (sDPutT (wVar 1) (wC (.str "c")) (wOp oAdd (wVar 0) (wLst (wCons (wC (.int 65536)) (wCons (wTup (wCons (wC (.str "func")) wNil)) (wCons (wTup (wCons (wC (.str "func")) (wCons (wC (.str "start")) wNil))) (wCons (wTup (wCons (wC (.str "func")) (wCons (wC (.str "")) wNil))) (wCons (wTup (wCons (wC (.str "func")) (wCons (wC (.str "A")) wNil))) (wCons (wTup (wCons (wC (.str "func")) (wCons (wC (.int 0)) wNil))) (wCons (wTup (wCons (wC (.str "fun")) (wCons (wC (.str "f")) wNil))) wNil))))))))))
  (sSeq (sDPutT (wVar 1) (wC (.str "c")) (wOp oAdd (wDGet (wVar 1) (wC (.str "c"))) (wLst (wCons (wLst (wCons (wC (.str "func")) (wCons (wC (.str "f")) wNil))) (wCons (wTup (wCons (wC (.str "var")) (wCons (wC (.int 0)) wNil))) (wCons (wTup (wCons (wC (.str "func")) (wCons (wC (.str "a.b.c")) wNil))) (wCons (wTup (wCons (wC (.str "func")) (wCons (wC (.str "f")) (wCons (wC (.int 0)) wNil)))) (wCons (wTup (wCons (wC (.str "word")) (wCons (wC (.int 1)) wNil))) wNil))))))))
  (sSeq (sDPutT (wVar 1) (wC (.str "s")) (wOp oAdd (wVar 0) (wLst (wCons (wTup (wCons (wUn oNeg (wC (.int 1))) wNil)) (wCons (wTup (wCons (wC .non) wNil)) (wCons (wTup (wCons (wC (.bl true)) wNil)) (wCons (wTup (wCons (wTup (wCons (wC (.str "var")) (wCons (wC (.int 4000)) wNil))) wNil)) (wCons (wLst (wCons (wC (.int 0)) wNil)) (wCons (wTup (wCons (wC (.int 0)) (wCons (wC (.int 65536)) wNil))) (wCons (wTup (wCons (wTup (wCons (wC (.int 0)) wNil)) wNil)) (wCons (wTup (wCons (wC (.str "0")) wNil)) (wCons (wNewK) wNil))))))))))))
  (sSeq (sDPutT (wVar 1) (wC (.str "t")) (wOp oAdd (wDGet (wVar 1) (wC (.str "s"))) (wLst (wCons (wTup (wCons (wC (.int 0)) (wCons (wC (.int 0)) (wCons (wC (.int 0)) (wCons (wC (.int 0)) (wCons (wC (.int 0)) wNil)))))) wNil))))
  (sSeq (sDPutT (wVar 1) (wC (.str "k")) (wOp oAdd (wVar 0) (wLst (wCons (wC (.int 65536)) (wCons (wTup (wCons (wC (.str "var")) (wCons (wC (.int 0)) wNil))) wNil)))))
  (sRet (wVar 1)))))))))))))))
def w_law_right (sp_law_right : List T → Sto → Post → Prop) : WS :=
  (sSeq (sSet 3 (wCall sp_law_pick (wCons (wVar 0) (wCons (wLst (wCons (wC (.str "f")) (wCons (wC (.str "g")) (wCons (wC (.str "t")) (wCons (wC (.str "m.h")) (wCons (wC (.str "abcdefgh")) (wCons (wC (.str "let.while")) (wCons (wC (.str "z")) wNil)))))))) wNil))))
  (sSeq (sPar 4 5 (wCall sp_law_pick (wCons (wVar 0) (wCons (wLst (wCons (wC (.int 0)) (wCons (wC (.int 1)) (wCons (wC (.int 2)) (wCons (wC (.int 7)) (wCons (wC (.int 3999)) wNil)))))) wNil))) (wCall sp_law_pick (wCons (wVar 0) (wCons (wLst (wCons (wC (.int 0)) (wCons (wC (.int 1)) (wCons (wC (.int 5)) (wCons (wC (.int 65535)) wNil))))) wNil))))
  (sSeq (sIf (wTst (wOp (oIn false) (wVar 1) (wTup (wCons (wC (.str "v")) (wCons (wC (.str "w")) wNil)))))
    (sRet (wIfE (wAnd (wTst (wOp oEq (wVar 1) (wC (.str "w")))) (wTst (wOp oEq (wCall sp_law_draw (wCons (wVar 0) (wCons (wC (.int 3)) wNil))) (wC (.int 0))))) (wC .non) (wVar 4)))
    sNext)
  (sSeq (sIf (wTst (wOp (oIn false) (wVar 1) (wTup (wCons (wC (.str "a")) (wCons (wC (.str "r")) wNil)))))
    (sRet (wIfE (wAnd (wTst (wOp oEq (wVar 1) (wC (.str "r")))) (wTst (wOp oEq (wCall sp_law_draw (wCons (wVar 0) (wCons (wC (.int 3)) wNil))) (wC (.int 0))))) (wC .non) (wCall sp_law_pick (wCons (wVar 0) (wCons (wLst (wCons (wVar 5) (wCons (wTup (wCons (wC (.str "var")) (wCons (wVar 4) wNil))) wNil))) wNil)))))
    sNext)
  (sSeq (sIf (wTst (wOp (oIn false) (wVar 1) (wTup (wCons (wC (.str "n")) (wCons (wC (.str "f")) wNil)))))
    (sRet (wIfE (wOr (wTst (wOp oEq (wVar 1) (wC (.str "n")))) (wTst (wOp oGt (wCall sp_law_draw (wCons (wVar 0) (wCons (wC (.int 4)) wNil))) (wC (.int 0))))) (wVar 3) (wC (.str "m.start"))))
    sNext)
  (sSeq (sIf (wTst (wOp oEq (wVar 1) (wC (.str "o"))))
    (sRet (wCall sp_law_pick (wCons (wVar 0) (wCons (wLst (wCons (wC (.str "add")) (wCons (wC (.str "sub")) (wCons (wC (.str "mul")) (wCons (wC (.str "div")) (wCons (wC (.str "rem")) (wCons (wC (.str "less")) (wCons (wC (.str "same")) (wCons (wC (.str "xor")) wNil))))))))) wNil))))
    sNext)
  (sSeq (sIf (wTst (wOp oEq (wVar 1) (wC (.str "c"))))
    (sRet (wCall sp_law_pick (wCons (wVar 0) (wCons (wLst (wCons (wVar 5) (wCons (wTup (wCons (wC (.str "func")) (wCons (wVar 3) wNil))) (wCons (wTup (wCons (wC (.str "func")) (wCons (wC (.str "let.start")) wNil))) (wCons (wVar 5) wNil))))) wNil))))
    sNext)
  (sSeq (sIf (wTst (wOp (oIn false) (wVar 1) (wTup (wCons (wC (.str "s")) (wCons (wC (.str "t")) wNil)))))
    (sRet (wCall oTuple (wCons (wLc (wRng1 (wCall sp_law_draw (wCons (wVar 0) (wCons (wIfE (wTst (wOp oEq (wVar 1) (wC (.str "t")))) (wC (.int 5)) (wC (.int 7))) wNil)))) (.nm 6) wYes (wCall sp_law_right (wCons (wVar 0) (wCons (wC (.str "a")) (wCons (wVar 2) wNil)))) [6]) wNil)))
    sNext)
  (sRet (wIfE (wTst (wOp oEq (wVar 1) (wC (.str "b")))) (wCall sp_law_draw (wCons (wVar 0) (wCons (wVar 2) wNil))) (wVar 5)))))))))))
def w_law_built : WS :=
  (sSeq (sSet 3 (wCall sp_law_pick (wCons (wVar 0) (wCons (wCall oSortD (wCons (wVar 1) wNil)) wNil))))
  (sRet (wOp oAdd (wTup (wCons (wVar 3) wNil)) (wCall oTuple (wCons (wLc (wItems (wDGet (wVar 1) (wVar 3))) (.nm 4) wYes (wCall sp_law_right (wCons (wVar 0) (wCons (wVar 4) (wCons (wVar 2) wNil)))) [4]) wNil)))))
def w_law_graph : WS :=
  (sSeq (sAsg (.tp (.cons (.nm 1) (.cons (.nm 2) (.cons (.nm 3) .nil)))) (wTup (wCons (wOp oAdd (wC (.int 1)) (wCall sp_law_draw (wCons (wVar 0) (wCons (wC (.int 4)) wNil)))) (wCons (wCell wNil) (wCons (wCall sp_law_forms wNil) wNil)))))
  (sSeq (sSet 4 (wDisp (((wC (.str "jump")), (wC (.str "b"))) :: (((wC (.str "branch")), (wC (.str "abb"))) :: (((wC (.str "return")), (wC (.str "r"))) :: (((wC (.str "halt")), (wC (.str "k"))) :: []))))))
  (sSeq (sFor (wRng1 (wVar 1)) (.nm 5)
    (sSeq (sSet 6 (wLc (wRng1 (wCall sp_law_draw (wCons (wVar 0) (wCons (wC (.int 4)) wNil)))) (.nm 7) wYes (wCall sp_law_built (wCons (wVar 0) (wCons (wVar 3) (wCons (wVar 1) wNil)))) [7]))
  (sDrop (wMeth "list" oAppend (wVar 2) (wCons (wTup (wCons (wCall oTuple (wCons (wVar 6) wNil)) (wCons (wCall sp_law_built (wCons (wVar 0) (wCons (wVar 4) (wCons (wVar 1) wNil)))) wNil))) wNil)))))
  (sRet (wTup (wCons (wCall sp_law_draw (wCons (wVar 0) (wCons (wC (.int 5)) wNil))) (wCons (wCall oTuple (wCons (wVar 2) wNil)) wNil)))))))
def w_law_put : WS :=
  (sRet (wTup (wCons (wOp oIx (wVar 0) (wC (.int 0))) (wCons (wOp oAdd (wOp oAdd (wSl (wOp oIx (wVar 0) (wC (.int 1))) wNoPart (wPart (wVar 1))) (wTup (wCons (wVar 2) wNil))) (wSl (wOp oIx (wVar 0) (wC (.int 1))) (wPart (wOp oAdd (wVar 1) (wC (.int 1)))) wNoPart)) wNil))))
def w_law_near_rows : WS :=
  (sSeq (sSet 4 (wCell (wCons (wSl (wVar 2) wNoPart (wPart (wUn oNeg (wC (.int 1))))) (wCons (wOp oAdd (wVar 2) (wTup (wCons (wC (.int 0)) wNil))) (wCons (wCall oList (wCons (wVar 2) wNil)) (wCons (wSl (wVar 2) (wPart (wC (.int 1))) wNoPart) (wCons (wOp oAdd (wTup (wCons (wC (.str "nop")) wNil)) (wSl (wVar 2) (wPart (wC (.int 1))) wNoPart)) (wCons (wTup (wCons (wVar 2) wNil)) (wCons (wC .non) (wCons (wTup wNil) (wCons (wSl (wVar 2) wNoPart (wPart (wC (.int 1)))) (wCons (wOp oIx (wVar 2) (wC (.int 0))) wNil))))))))))))
  (sSeq (sDrop (wMeth "list" oAppend (wVar 4) (wCons (wOp oAdd (wTup (wCons (wCall sp_law_pick (wCons (wVar 0) (wCons (wCall oSortD (wCons (wVar 1) wNil)) wNil))) wNil)) (wSl (wVar 2) (wPart (wC (.int 1))) wNoPart)) wNil)))
  (sSeq (sSet 5 (wCall sp_law_wrongs wNil))
  (sSeq (sDPutT (wVar 5) (wC (.str "b")) (wLst (wCons (wUn oNeg (wC (.int 1))) (wCons (wVar 3) (wCons (wC (.bl true)) (wCons (wC .non) (wCons (wC (.str "0")) (wCons (wTup (wCons (wC (.int 0)) wNil)) (wCons (wOp oPow (wC (.int 10)) (wC (.int 30))) (wCons (wC (.bl false)) wNil))))))))))
  (sSeq (sFor (wEnum (wDGet (wVar 1) (wOp oIx (wVar 2) (wC (.int 0))))) (.tp (.cons (.nm 6) (.cons (.nm 7) .nil)))
    (sSeq (sFor (wItems (wSl (wCall sp_law_shuffled (wCons (wVar 0) (wCons (wDGet (wVar 5) (wVar 7)) wNil))) wNoPart (wPart (wC (.int 4))))) (.nm 8)
    (sDrop (wMeth "list" oAppend (wVar 4) (wCons (wOp oAdd (wOp oAdd (wSl (wVar 2) wNoPart (wPart (wOp oAdd (wVar 6) (wC (.int 1))))) (wTup (wCons (wVar 8) wNil))) (wSl (wVar 2) (wPart (wOp oAdd (wVar 6) (wC (.int 2)))) wNoPart)) wNil))))
  (sDrop (wMeth "list" oAppend (wVar 4) (wCons (wOp oAdd (wOp oAdd (wSl (wVar 2) wNoPart (wPart (wOp oAdd (wVar 6) (wC (.int 1))))) (wTup (wCons (wCall sp_law_right (wCons (wVar 0) (wCons (wVar 7) (wCons (wVar 3) wNil)))) wNil))) (wSl (wVar 2) (wPart (wOp oAdd (wVar 6) (wC (.int 2)))) wNoPart)) wNil)))))
  (sRet (wVar 4)))))))
def w_law_near_graphs : WS :=
  (sSeq (sAsg (.tp (.cons (.nm 2) (.cons (.nm 3) .nil))) (wVar 1))
  (sSeq (sSet 4 (wCall sp_law_draw (wCons (wVar 0) (wCons (wCall oLen (wCons (wVar 3) wNil)) wNil))))
  (sSeq (sAsg (.tp (.cons (.nm 5) (.cons (.nm 6) .nil))) (wOp oIx (wVar 3) (wVar 4)))
  (sSeq (sSet 7 (wLst (wCons (wTup (wCons (wVar 2) (wCons (wCall oList (wCons (wVar 3) wNil)) wNil))) (wCons (wTup (wCons (wVar 2) (wCons (wTup wNil) wNil))) (wCons (wTup (wCons (wVar 2) wNil)) (wCons (wLst (wCons (wVar 2) (wCons (wVar 3) wNil))) (wCons (wTup (wCons (wVar 2) (wCons (wVar 3) (wCons (wTup wNil) wNil)))) (wCons (wVar 3) (wCons (wC .non) (wCons (wTup wNil) (wCons (wC (.str "graph")) wNil)))))))))))
  (sSeq (sSet 7 (wOp oAddC (wOp oAdd (wVar 7) (wLc (wItems (wTup (wCons (wUn oNeg (wC (.int 1))) (wCons (wC (.bl true)) (wCons (wC .non) (wCons (wC (.str "0")) (wCons (wTup (wCons (wC (.int 0)) wNil)) (wCons (wC (.bl false)) (wCons (wLst wNil) (wCons (wC (.int 5)) (wCons (wOp oPow (wC (.int 10)) (wC (.int 30))) wNil))))))))))) (.nm 9) wYes (wTup (wCons (wVar 9) (wCons (wVar 3) wNil))) [9])) (wLst (wCons (wTup (wCons (wC (.int 0)) (wCons (wVar 3) wNil))) (wCons (wTup (wCons (wC (.int 4)) (wCons (wVar 3) wNil))) (wCons (wNewK) (wCons (wC (.int 0)) wNil)))))))
  (sSeq (sFor (wItems (wTup (wCons (wTup (wCons (wVar 5) wNil)) (wCons (wTup (wCons (wVar 5) (wCons (wVar 6) (wCons (wTup wNil) wNil)))) (wCons (wLst (wCons (wVar 5) (wCons (wVar 6) wNil))) (wCons (wTup (wCons (wCall oList (wCons (wVar 5) wNil)) (wCons (wVar 6) wNil))) (wCons (wTup (wCons (wVar 5) (wCons (wC .non) wNil))) (wCons (wTup (wCons (wVar 6) (wCons (wVar 5) wNil))) (wCons (wVar 5) (wCons (wVar 6) (wCons (wTup (wCons (wVar 5) (wCons (wVar 5) wNil))) (wCons (wC .non) wNil)))))))))))) (.nm 8)
    (sDrop (wMeth "list" oAppend (wVar 7) (wCons (wCall sp_law_put (wCons (wVar 1) (wCons (wVar 4) (wCons (wVar 8) wNil)))) wNil))))
  (sRet (wOp oAdd (wVar 7) (wLst (wCons (wTup (wCons (wVar 2) (wCons (wSl (wVar 3) wNoPart (wPart (wUn oNeg (wC (.int 1))))) wNil))) (wCons (wTup (wCons (wVar 2) (wCons (wOp oAdd (wVar 3) (wSl (wVar 3) wNoPart (wPart (wC (.int 1))))) wNil))) (wCons (wTup (wCons (wVar 2) (wCons (wRevS (wVar 3)) wNil))) wNil))))))))))))
def w_law_great : WS :=
  (sSeq (sPar 1 2 (wTup (wCons (wC (.str "print")) (wCons (wCall sp_law_draw (wCons (wVar 0) (wCons (wC (.int 9)) wNil))) wNil))) (wOp oAdd (wC (.int 2000)) (wCall sp_law_draw (wCons (wVar 0) (wCons (wC (.int 2)) wNil)))))
  (sSeq (sIf (wTst (wOp oEq (wCall sp_law_draw (wCons (wVar 0) (wCons (wC (.int 2)) wNil))) (wC (.int 0))))
    (sRet (wTup (wCons (wC (.int 0)) (wCons (wTup (wCons (wTup (wCons (wOp oMulT (wTup (wCons (wVar 1) wNil)) (wOp oSub (wVar 2) (wC (.int 1)))) (wCons (wTup (wCons (wC (.str "return")) (wCons (wC .non) wNil))) wNil))) wNil)) wNil))))
    sNext)
  (sRet (wTup (wCons (wC (.int 0)) (wCons (wOp oMulT (wTup (wCons (wTup (wCons (wTup wNil) (wCons (wTup (wCons (wC (.str "jump")) (wCons (wOp oSub (wVar 2) (wC (.int 1))) wNil))) wNil))) wNil)) (wVar 2)) wNil))))))
def w_law : WS :=
  (sSeq (sSet 1 (wCall sp_law_deck (wCons (wVar 0) wNil)))
  (sSeq (sPar 2 3 (wCall sp_law_graph (wCons (wVar 1) wNil)) (wCall sp_law_forms wNil))
  (sSeq (sSet 4 (wDisp (((wC (.str "jump")), (wC (.str "b"))) :: (((wC (.str "branch")), (wC (.str "abb"))) :: (((wC (.str "return")), (wC (.str "r"))) :: (((wC (.str "halt")), (wC (.str "k"))) :: []))))))
  (sSeq (sAsg (.tp (.cons (.nm 5) (.cons (.nm 6) .nil))) (wTup (wCons (wCell (wCons (wVar 2) (wCons (wCall sp_law_graph (wCons (wVar 1) wNil)) wNil))) (wCons (wCall oLen (wCons (wOp oIx (wVar 2) (wC (.int 1))) wNil)) wNil))))
  (sSeq (sFor (wRng1 (wC (.int 2))) (.nm 7)
    (sSeq (sFor (wItems (wSl (wCall sp_law_shuffled (wCons (wVar 1) (wCons (wCall oSortD (wCons (wVar 3) wNil)) wNil))) wNoPart (wPart (wC (.int 5))))) (.nm 8)
    (sSeq (sSet 9 (wOp oAdd (wTup (wCons (wVar 8) wNil)) (wCall oTuple (wCons (wLc (wItems (wDGet (wVar 3) (wVar 8))) (.nm 17) wYes (wCall sp_law_right (wCons (wVar 1) (wCons (wVar 17) (wCons (wVar 6) wNil)))) [17]) wNil))))
  (sSeq (sSet 10 (wCall sp_law_draw (wCons (wVar 1) (wCons (wVar 6) wNil))))
  (sSeq (sAsg (.tp (.cons (.nm 11) (.cons (.nm 12) .nil))) (wOp oIx (wOp oIx (wVar 2) (wC (.int 1))) (wVar 10)))
  (sFor (wItems (wOp oAdd (wLst (wCons (wVar 9) wNil)) (wSl (wCall sp_law_shuffled (wCons (wVar 1) (wCons (wCall sp_law_near_rows (wCons (wVar 1) (wCons (wVar 3) (wCons (wVar 9) (wCons (wVar 6) wNil))))) wNil))) wNoPart (wPart (wC (.int 7)))))) (.nm 13)
    (sSeq (sSet 14 (wCall sp_law_draw (wCons (wVar 1) (wCons (wOp oAdd (wCall oLen (wCons (wVar 11) wNil)) (wC (.int 1))) wNil))))
  (sDrop (wMeth "list" oAppend (wVar 5) (wCons (wCall sp_law_put (wCons (wVar 2) (wCons (wVar 10) (wCons (wTup (wCons (wOp oAdd (wOp oAdd (wSl (wVar 11) wNoPart (wPart (wVar 14))) (wTup (wCons (wVar 13) wNil))) (wSl (wVar 11) (wPart (wVar 14)) wNoPart)) (wCons (wVar 12) wNil))) wNil)))) wNil)))))))))
  (sSeq (sSet 8 (wCall sp_law_pick (wCons (wVar 1) (wCons (wCall oSortD (wCons (wVar 4) wNil)) wNil))))
  (sSeq (sSet 9 (wOp oAdd (wTup (wCons (wVar 8) wNil)) (wCall oTuple (wCons (wLc (wItems (wDGet (wVar 4) (wVar 8))) (.nm 17) wYes (wCall sp_law_right (wCons (wVar 1) (wCons (wVar 17) (wCons (wVar 6) wNil)))) [17]) wNil))))
  (sSeq (sSet 10 (wCall sp_law_draw (wCons (wVar 1) (wCons (wVar 6) wNil))))
  (sFor (wItems (wOp oAdd (wLst (wCons (wVar 9) wNil)) (wSl (wCall sp_law_shuffled (wCons (wVar 1) (wCons (wCall sp_law_near_rows (wCons (wVar 1) (wCons (wVar 4) (wCons (wVar 9) (wCons (wVar 6) wNil))))) wNil))) wNoPart (wPart (wC (.int 9)))))) (.nm 13)
    (sDrop (wMeth "list" oAppend (wVar 5) (wCons (wCall sp_law_put (wCons (wVar 2) (wCons (wVar 10) (wCons (wTup (wCons (wOp oIx (wOp oIx (wOp oIx (wVar 2) (wC (.int 1))) (wVar 10)) (wC (.int 0))) (wCons (wVar 13) wNil))) wNil)))) wNil)))))))))
  (sSeq (sSet 5 (wOp oAddC (wVar 5) (wCall sp_law_near_graphs (wCons (wVar 1) (wCons (wVar 2) wNil)))))
  (sSeq (sIf (wTst (wOp oEq (wCall sp_law_draw (wCons (wVar 1) (wCons (wC (.int 8)) wNil))) (wC (.int 0))))
    (sDrop (wMeth "list" oAppend (wVar 5) (wCons (wCall sp_law_great (wCons (wVar 1) wNil)) wNil)))
    sNext)
  (sSeq (sFor (wEnum (wFrz (wVar 5))) (.tp (.cons (.nm 10) (.cons (.nm 15) .nil)))
    (sSeq (sSet 16 (wIfE (wTst (wOp oEq (wOp oMod (wCall oInt1 (wCons (wVar 10) wNil)) (wC (.int 2))) (wC (.int 0)))) (wCall sp_is_graph (wCons (wVar 15) wNil)) (wCallKw [0] 1 sp_is_graph (wCons (wVar 15) wNil))))
  (sIf (wOr (wAnd (wTst (wOp oIsNot (wVar 16) (wC (.bl true)))) (wTst (wOp oIsNot (wVar 16) (wC (.bl false))))) (wTst (wOp oNe (wVar 16) (wCall sp_law_is_graph (wCons (wVar 15) wNil)))))
    (sRet (wC (.bl false)))
    sNext)))
  (sRet (wC (.bl true)))))))))))
abbrev s_size_of : Stmt := topS 1
abbrev n_size_of : List Str := ["graph", "instructions", "terminator"]
theorem sc_size_of : FnScope n_size_of ["graph"] (defScope s_size_of) := ⟨rfl, rfl, rfl, by decide +kernel, rfl, by decide +kernel, by decide +kernel⟩
abbrev s_is_integer : Stmt := topS 6
abbrev n_is_integer : List Str := ["thing"]
theorem sc_is_integer : FnScope n_is_integer ["thing"] (defScope s_is_integer) := ⟨rfl, rfl, rfl, by decide +kernel, rfl, by decide +kernel, by decide +kernel⟩
abbrev s_is_word : Stmt := topS 7
abbrev n_is_word : List Str := ["thing"]
theorem sc_is_word : FnScope n_is_word ["thing"] (defScope s_is_word) := ⟨rfl, rfl, rfl, by decide +kernel, rfl, by decide +kernel, by decide +kernel⟩
abbrev s_is_name : Stmt := topS 8
abbrev n_is_name : List Str := ["thing", "letter"]
theorem sc_is_name : FnScope n_is_name ["thing"] (defScope s_is_name) := ⟨rfl, rfl, rfl, by decide +kernel, rfl, by decide +kernel, by decide +kernel⟩
abbrev s_is_full_name : Stmt := topS 10
abbrev n_is_full_name : List Str := ["thing", "parts"]
theorem sc_is_full_name : FnScope n_is_full_name ["thing"] (defScope s_is_full_name) := ⟨rfl, rfl, rfl, by decide +kernel, rfl, by decide +kernel, by decide +kernel⟩
abbrev s_is_function_value : Stmt := topS 11
abbrev n_is_function_value : List Str := ["thing"]
theorem sc_is_function_value : FnScope n_is_function_value ["thing"] (defScope s_is_function_value) := ⟨rfl, rfl, rfl, by decide +kernel, rfl, by decide +kernel, by decide +kernel⟩
abbrev s_is_value : Stmt := topS 12
abbrev n_is_value : List Str := ["thing"]
theorem sc_is_value : FnScope n_is_value ["thing"] (defScope s_is_value) := ⟨rfl, rfl, rfl, by decide +kernel, rfl, by decide +kernel, by decide +kernel⟩
abbrev s_is_variable : Stmt := topS 20
abbrev n_is_variable : List Str := ["thing"]
theorem sc_is_variable : FnScope n_is_variable ["thing"] (defScope s_is_variable) := ⟨rfl, rfl, rfl, by decide +kernel, rfl, by decide +kernel, by decide +kernel⟩
abbrev s_is_operand : Stmt := topS 21
abbrev n_is_operand : List Str := ["thing"]
theorem sc_is_operand : FnScope n_is_operand ["thing"] (defScope s_is_operand) := ⟨rfl, rfl, rfl, by decide +kernel, rfl, by decide +kernel, by decide +kernel⟩
abbrev s_are_operands : Stmt := topS 22
abbrev n_are_operands : List Str := ["thing", "one"]
theorem sc_are_operands : FnScope n_are_operands ["thing"] (defScope s_are_operands) := ⟨rfl, rfl, rfl, by decide +kernel, rfl, by decide +kernel, by decide +kernel⟩
abbrev s_has_word : Stmt := topS 23
abbrev n_has_word : List Str := ["thing", "is_end"]
theorem sc_has_word : FnScope n_has_word ["thing", "is_end"] (defScope s_has_word) := ⟨rfl, rfl, rfl, by decide +kernel, rfl, by decide +kernel, by decide +kernel⟩
abbrev s_is_instruction : Stmt := topS 24
abbrev n_is_instruction : List Str := ["thing", "word"]
theorem sc_is_instruction : FnScope n_is_instruction ["thing"] (defScope s_is_instruction) := ⟨rfl, rfl, rfl, by decide +kernel, rfl, by decide +kernel, by decide +kernel⟩
abbrev s_is_block_number : Stmt := topS 25
abbrev n_is_block_number : List Str := ["thing", "count"]
theorem sc_is_block_number : FnScope n_is_block_number ["thing", "count"] (defScope s_is_block_number) := ⟨rfl, rfl, rfl, by decide +kernel, rfl, by decide +kernel, by decide +kernel⟩
abbrev s_is_terminator : Stmt := topS 26
abbrev n_is_terminator : List Str := ["thing", "count", "word", "block"]
theorem sc_is_terminator : FnScope n_is_terminator ["thing", "count"] (defScope s_is_terminator) := ⟨rfl, rfl, rfl, by decide +kernel, rfl, by decide +kernel, by decide +kernel⟩
abbrev s_is_block : Stmt := topS 27
abbrev n_is_block : List Str := ["thing", "count", "one"]
theorem sc_is_block : FnScope n_is_block ["thing", "count"] (defScope s_is_block) := ⟨rfl, rfl, rfl, by decide +kernel, rfl, by decide +kernel, by decide +kernel⟩
abbrev s_is_graph_value : Stmt := topS 28
abbrev n_is_graph_value : List Str := ["thing", "block"]
theorem sc_is_graph_value : FnScope n_is_graph_value ["thing"] (defScope s_is_graph_value) := ⟨rfl, rfl, rfl, by decide +kernel, rfl, by decide +kernel, by decide +kernel⟩
abbrev s_is_graph : Stmt := topS 30
abbrev n_is_graph : List Str := ["thing"]
theorem sc_is_graph : FnScope n_is_graph ["thing"] (defScope s_is_graph) := ⟨rfl, rfl, rfl, by decide +kernel, rfl, by decide +kernel, by decide +kernel⟩
abbrev s_law_deck : Stmt := topS 32
abbrev n_law_deck : List Str := ["script", "mixed", "cell"]
theorem sc_law_deck : FnScope n_law_deck ["script"] (defScope s_law_deck) := ⟨rfl, rfl, rfl, by decide +kernel, rfl, by decide +kernel, by decide +kernel⟩
abbrev s_law_draw : Stmt := topS 33
abbrev n_law_draw : List Str := ["deck", "many", "figure", "cell"]
theorem sc_law_draw : FnScope n_law_draw ["deck", "many"] (defScope s_law_draw) := ⟨rfl, rfl, rfl, by decide +kernel, rfl, by decide +kernel, by decide +kernel⟩
abbrev s_law_pick : Stmt := topS 34
abbrev n_law_pick : List Str := ["deck", "some"]
theorem sc_law_pick : FnScope n_law_pick ["deck", "some"] (defScope s_law_pick) := ⟨rfl, rfl, rfl, by decide +kernel, rfl, by decide +kernel, by decide +kernel⟩
abbrev s_law_shuffled : Stmt := topS 35
abbrev n_law_shuffled : List Str := ["deck", "some", "left", "found", "turn"]
theorem sc_law_shuffled : FnScope n_law_shuffled ["deck", "some"] (defScope s_law_shuffled) := ⟨rfl, rfl, rfl, by decide +kernel, rfl, by decide +kernel, by decide +kernel⟩
abbrev s_law_is_whole : Stmt := topS 36
abbrev n_law_is_whole : List Str := ["thing", "many"]
theorem sc_law_is_whole : FnScope n_law_is_whole ["thing", "many"] (defScope s_law_is_whole) := ⟨rfl, rfl, rfl, by decide +kernel, rfl, by decide +kernel, by decide +kernel⟩
abbrev s_law_is_full_name : Stmt := topS 37
abbrev n_law_is_full_name : List Str := ["thing", "parts", "part", "x"]
theorem sc_law_is_full_name : FnScope n_law_is_full_name ["thing"] (defScope s_law_is_full_name) := ⟨rfl, rfl, rfl, by decide +kernel, rfl, by decide +kernel, by decide +kernel⟩
abbrev s_law_is_operand : Stmt := topS 38
abbrev n_law_is_operand : List Str := ["thing"]
theorem sc_law_is_operand : FnScope n_law_is_operand ["thing"] (defScope s_law_is_operand) := ⟨rfl, rfl, rfl, by decide +kernel, rfl, by decide +kernel, by decide +kernel⟩
abbrev s_law_is_part : Stmt := topS 39
abbrev n_law_is_part : List Str := ["kind", "thing", "blocks", "it"]
theorem sc_law_is_part : FnScope n_law_is_part ["kind", "thing", "blocks"] (defScope s_law_is_part) := ⟨rfl, rfl, rfl, by decide +kernel, rfl, by decide +kernel, by decide +kernel⟩
abbrev s_law_forms : Stmt := topS 40
abbrev n_law_forms : List Str := ["found"]
theorem sc_law_forms : FnScope n_law_forms [] (defScope s_law_forms) := ⟨rfl, rfl, rfl, by decide +kernel, rfl, by decide +kernel, by decide +kernel⟩
abbrev s_law_is_built : Stmt := topS 41
abbrev n_law_is_built : List Str := ["forms", "thing", "blocks", "kinds", "kind", "it"]
theorem sc_law_is_built : FnScope n_law_is_built ["forms", "thing", "blocks"] (defScope s_law_is_built) := ⟨rfl, rfl, rfl, by decide +kernel, rfl, by decide +kernel, by decide +kernel⟩
abbrev s_law_is_graph : Stmt := topS 42
abbrev n_law_is_graph : List Str := ["thing", "blocks", "many", "ends", "forms", "block", "row"]
theorem sc_law_is_graph : FnScope n_law_is_graph ["thing"] (defScope s_law_is_graph) := ⟨rfl, rfl, rfl, by decide +kernel, rfl, by decide +kernel, by decide +kernel⟩
abbrev s_law_wrongs : Stmt := topS 43
abbrev n_law_wrongs : List Str := ["odd", "found", "it"]
theorem sc_law_wrongs : FnScope n_law_wrongs [] (defScope s_law_wrongs) := ⟨rfl, rfl, rfl, by decide +kernel, rfl, by decide +kernel, by decide +kernel⟩
abbrev s_law_right : Stmt := topS 44
abbrev n_law_right : List Str := ["deck", "kind", "blocks", "name", "number", "word", "turn"]
theorem sc_law_right : FnScope n_law_right ["deck", "kind", "blocks"] (defScope s_law_right) := ⟨rfl, rfl, rfl, by decide +kernel, rfl, by decide +kernel, by decide +kernel⟩
abbrev s_law_built : Stmt := topS 45
abbrev n_law_built : List Str := ["deck", "forms", "blocks", "word", "kind"]
theorem sc_law_built : FnScope n_law_built ["deck", "forms", "blocks"] (defScope s_law_built) := ⟨rfl, rfl, rfl, by decide +kernel, rfl, by decide +kernel, by decide +kernel⟩
abbrev s_law_graph : Stmt := topS 46
abbrev n_law_graph : List Str := ["deck", "many", "blocks", "forms", "ends", "number", "rows", "turn"]
theorem sc_law_graph : FnScope n_law_graph ["deck"] (defScope s_law_graph) := ⟨rfl, rfl, rfl, by decide +kernel, rfl, by decide +kernel, by decide +kernel⟩
abbrev s_law_put : Stmt := topS 47
abbrev n_law_put : List Str := ["graph", "at", "block"]
theorem sc_law_put : FnScope n_law_put ["graph", "at", "block"] (defScope s_law_put) := ⟨rfl, rfl, rfl, by decide +kernel, rfl, by decide +kernel, by decide +kernel⟩
abbrev s_law_near_rows : Stmt := topS 48
abbrev n_law_near_rows : List Str := ["deck", "forms", "row", "blocks", "found", "wrongs", "at", "kind", "thing"]
theorem sc_law_near_rows : FnScope n_law_near_rows ["deck", "forms", "row", "blocks"] (defScope s_law_near_rows) := ⟨rfl, rfl, rfl, by decide +kernel, rfl, by decide +kernel, by decide +kernel⟩
abbrev s_law_near_graphs : Stmt := topS 49
abbrev n_law_near_graphs : List Str := ["deck", "graph", "count", "blocks", "at", "rows", "end", "found", "block", "it"]
theorem sc_law_near_graphs : FnScope n_law_near_graphs ["deck", "graph"] (defScope s_law_near_graphs) := ⟨rfl, rfl, rfl, by decide +kernel, rfl, by decide +kernel, by decide +kernel⟩
abbrev s_law_great : Stmt := topS 50
abbrev n_law_great : List Str := ["deck", "row", "many"]
theorem sc_law_great : FnScope n_law_great ["deck"] (defScope s_law_great) := ⟨rfl, rfl, rfl, by decide +kernel, rfl, by decide +kernel, by decide +kernel⟩
abbrev s_law : Stmt := topS 51
abbrev n_law : List Str := ["script", "deck", "graph", "forms", "ends", "things", "blocks", "turn", "word", "row", "at", "rows", "end", "near", "place", "thing", "told", "kind"]
theorem sc_law : FnScope n_law ["script"] (defScope s_law) := ⟨rfl, rfl, rfl, by decide +kernel, rfl, by decide +kernel, by decide +kernel⟩
end TL.K

set_option Elab.async false
set_option linter.all false
set_option maxRecDepth 100000
set_option maxHeartbeats 8000000
namespace TL.K
open PySem L2 PyProof.Rows
section
variable {P : Program} {W : World} {K : PySem.W.Frag} {mg : Str → Option Value} {base : Heap}
theorem bd_size_of {f : Addr} (Tx : Txt K W mg) (cdv : Value) (A : Around) (outer : List Env) (s : Shared) (H : Hp) (E : XK) (hr : Room 0 (A.deeper (envOfC "size_of" (defScope s_size_of) s.heap.objs.size f cdv))) :
    TSs (cxOf CX0 P W K mg base n_size_of "size_of" (defScope s_size_of) f cdv A outer s H E).nox (defBody s_size_of) w_size_of := by
  unfold w_size_of
  exact (tss_one (ts_ret (tx_callB (cx_sum rfl) rfl Tx.z_sum (by decide +kernel) (ta_cons (tx_lc (own := [("instructions", 1), ("terminator", 2)]) (tg := (.tp (.cons (.nm 1) (.cons (.nm 2) .nil)))) rfl sc_size_of.nd (tit_seq (tx_ix (tv 0) tx_int)) (blkOk_by (own := [("instructions", 1), ("terminator", 2)]) (N := n_size_of) (sc := defScope s_size_of) (by decide +kernel)) (fun _ _ _ _ _ => (pgt rfl (pgsc (pgn (pg_name (i := 1) sc_size_of.nd rfl (Or.inl rfl))) (pgsc (pgn (pg_name (i := 2) sc_size_of.nd rfl (Or.inl rfl))) pgsn)))) (fun _ _ _ _ _ => tbs_nil) (fun _ _ _ _ _ => (tx_op ox_add (tx_callB cx_len rfl Tx.z_len (by decide +kernel) (ta_cons (tv 1) ta_nil)) tx_int))) ta_nil))))
theorem bd_is_integer {f : Addr} (Tx : Txt K W mg) (cdv : Value) (A : Around) (outer : List Env) (s : Shared) (H : Hp) (E : XK) (hr : Room 0 (A.deeper (envOfC "is_integer" (defScope s_is_integer) s.heap.objs.size f cdv))) :
    TSs (cxOf CX0 P W K mg base n_is_integer "is_integer" (defScope s_is_integer) f cdv A outer s H E).nox (defBody s_is_integer) w_is_integer := by
  unfold w_is_integer
  exact (tss_one (ts_ret (tx_and (tx_isi (n := "int") (tv 0) (by decide) rfl Tx.z_isinstance rfl Tx.z_int (by decide +kernel)) (tx_one (tx_not (tx_isi (n := "bool") (tv 0) (by decide) rfl Tx.z_isinstance rfl Tx.z_bool (by decide +kernel)))))))
theorem bd_is_word {f : Addr} (Tx : Txt K W mg) (D_is_integer : Def P W K mg base "is_integer" ["thing"] 1 sp_is_integer) (cdv : Value) (A : Around) (outer : List Env) (s : Shared) (H : Hp) (E : XK) (hr : Room 1 (A.deeper (envOfC "is_word" (defScope s_is_word) s.heap.objs.size f cdv))) :
    TSs (cxOf CX0 P W K mg base n_is_word "is_word" (defScope s_is_word) f cdv A outer s H E).nox (defBody s_is_word) w_is_word := by
  unfold w_is_word
  exact (tss_one (ts_ret (tx_and (tx_call D_is_integer (hr.mono (by decide)) rfl (ta_cons (tv 0) ta_nil)) (tx_one (tx_chain ox_le ox_le tx_int (tv 0) (tx_gint rfl Tx.g_GREATEST_WORD))))))
theorem bd_is_name {f : Addr} (Tx : Txt K W mg) (cdv : Value) (A : Around) (outer : List Env) (s : Shared) (H : Hp) (E : XK) (hr : Room 0 (A.deeper (envOfC "is_name" (defScope s_is_name) s.heap.objs.size f cdv))) :
    TSs (cxOf CX0 P W K mg base n_is_name "is_name" (defScope s_is_name) f cdv A outer s H E).nox (defBody s_is_name) w_is_name := by
  unfold w_is_name
  exact (tss_cons (ts_if (tb_w (tbw_or (tb_not (tb_tru (tx_isi (n := "str") (tv 0) (by decide) rfl Tx.z_isinstance rfl Tx.z_str (by decide +kernel)))) (tbw_or (tb_not (tb_chain ox_le ox_le tx_int (tx_callB cx_len rfl Tx.z_len (by decide +kernel) (ta_cons (tv 0) ta_nil)) (tx_gint rfl Tx.g_LONGEST_NAME))) (tbw_or1 (tb_cmp (ox_eq (hu64 hr)) (tv 0) tx_str (nomark _))))))
    (tss_one (ts_ret tx_bl))
    tss_nil)
  (tss_one (ts_ret (tx_callB (cx_all rfl) rfl Tx.z_all (by decide +kernel) (ta_cons (tx_lc (own := [("letter", 1)]) (tg := (.nm 1)) rfl sc_is_name.nd (tit_seq (tv 0)) (blkOk_by (own := [("letter", 1)]) (N := n_is_name) (sc := defScope s_is_name) (by decide +kernel)) (fun _ _ _ _ _ => (pgn (pg_name (i := 1) sc_is_name.nd rfl (Or.inl rfl)))) (fun _ _ _ _ _ => tbs_nil) (fun _ _ _ _ _ => (tx_cmp (ox_in (hu64 hr)) (tv 1) (tx_gstr rfl Tx.g_LETTERS) (by rfl)))) ta_nil)))))
theorem bd_is_full_name {f : Addr} (Tx : Txt K W mg) (D_is_name : Def P W K mg base "is_name" ["thing"] 1 sp_is_name) (cdv : Value) (A : Around) (outer : List Env) (s : Shared) (H : Hp) (E : XK) (hr : Room 1 (A.deeper (envOfC "is_full_name" (defScope s_is_full_name) s.heap.objs.size f cdv))) :
    TSs (cxOf CX0 P W K mg base n_is_full_name "is_full_name" (defScope s_is_full_name) f cdv A outer s H E).nox (defBody s_is_full_name) w_is_full_name := by
  unfold w_is_full_name
  exact (tss_cons (ts_if (tb_not (tb_tru (tx_isi (n := "str") (tv 0) (by decide) rfl Tx.z_isinstance rfl Tx.z_str (by decide +kernel))))
    (tss_one (ts_ret tx_bl))
    tss_nil)
  (tss_cons (ts_set (i := 1) sc_is_full_name.nd rfl (Or.inl rfl) (tx_meth PySem.F.plainAttrs_str PySem.F.slot_str_split PySem.F.type_str_split mx_split (tv 0) (ta_cons tx_str ta_nil)))
  (tss_cons (ts_if (tb_cmp (ox_eq (hu64 hr)) (tx_callB cx_len rfl Tx.z_len (by decide +kernel) (ta_cons (tv 1) ta_nil)) tx_int (nomark _))
    (tss_one (ts_ret (tx_call D_is_name (hr.mono (by decide)) rfl (ta_cons (tv 0) ta_nil))))
    tss_nil)
  (tss_one (ts_ret (tx_and (tx_cmp (ox_eq (hu64 hr)) (tx_callB cx_len rfl Tx.z_len (by decide +kernel) (ta_cons (tv 1) ta_nil)) tx_int (nomark _)) (tx_and (tx_call D_is_name (hr.mono (by decide)) rfl (ta_cons (tx_ix (tv 1) tx_int) ta_nil)) (tx_one (tx_or (tx_call D_is_name (hr.mono (by decide)) rfl (ta_cons (tx_ix (tv 1) tx_int) ta_nil)) (tx_one (tx_cmp (ox_eq (hu64 hr)) (tx_ix (tv 1) tx_int) tx_str (nomark _))))))))))))
theorem bd_is_function_value {f : Addr} (Tx : Txt K W mg) (D_is_full_name : Def P W K mg base "is_full_name" ["thing"] 2 sp_is_full_name) (cdv : Value) (A : Around) (outer : List Env) (s : Shared) (H : Hp) (E : XK) (hr : Room 2 (A.deeper (envOfC "is_function_value" (defScope s_is_function_value) s.heap.objs.size f cdv))) :
    TSs (cxOf CX0 P W K mg base n_is_function_value "is_function_value" (defScope s_is_function_value) f cdv A outer s H E).nox (defBody s_is_function_value) w_is_function_value := by
  unfold w_is_function_value
  exact (tss_one (ts_ret (tx_and (tx_isi (n := "tuple") (tv 0) (by decide) rfl Tx.z_isinstance rfl Tx.z_tuple (by decide +kernel)) (tx_and (tx_cmp (ox_eq (hu64 hr)) (tx_callB cx_len rfl Tx.z_len (by decide +kernel) (ta_cons (tv 0) ta_nil)) tx_int (nomark _)) (tx_and (tx_cmp (ox_eq (hu64 hr)) (tx_ix (tv 0) tx_int) tx_str (nomark _)) (tx_one (tx_call D_is_full_name (hr.mono (by decide)) rfl (ta_cons (tx_ix (tv 0) tx_int) ta_nil))))))))
theorem bd_is_value {f : Addr} (Tx : Txt K W mg) (D_is_function_value : Def P W K mg base "is_function_value" ["thing"] 3 sp_is_function_value) (D_is_word : Def P W K mg base "is_word" ["thing"] 2 sp_is_word) (cdv : Value) (A : Around) (outer : List Env) (s : Shared) (H : Hp) (E : XK) (hr : Room 3 (A.deeper (envOfC "is_value" (defScope s_is_value) s.heap.objs.size f cdv))) :
    TSs (cxOf CX0 P W K mg base n_is_value "is_value" (defScope s_is_value) f cdv A outer s H E).nox (defBody s_is_value) w_is_value := by
  unfold w_is_value
  exact (tss_one (ts_ret (tx_or (tx_call D_is_word (hr.mono (by decide)) rfl (ta_cons (tv 0) ta_nil)) (tx_one (tx_call D_is_function_value (hr.mono (by decide)) rfl (ta_cons (tv 0) ta_nil))))))
theorem bd_is_variable {f : Addr} (Tx : Txt K W mg) (D_is_integer : Def P W K mg base "is_integer" ["thing"] 1 sp_is_integer) (cdv : Value) (A : Around) (outer : List Env) (s : Shared) (H : Hp) (E : XK) (hr : Room 1 (A.deeper (envOfC "is_variable" (defScope s_is_variable) s.heap.objs.size f cdv))) :
    TSs (cxOf CX0 P W K mg base n_is_variable "is_variable" (defScope s_is_variable) f cdv A outer s H E).nox (defBody s_is_variable) w_is_variable := by
  unfold w_is_variable
  exact (tss_one (ts_ret (tx_and (tx_call D_is_integer (hr.mono (by decide)) rfl (ta_cons (tv 0) ta_nil)) (tx_one (tx_chain ox_le ox_lt tx_int (tv 0) (tx_gint rfl Tx.g_MOST_VARIABLES))))))
theorem bd_is_operand {f : Addr} (Tx : Txt K W mg) (D_is_variable : Def P W K mg base "is_variable" ["thing"] 2 sp_is_variable) (D_is_word : Def P W K mg base "is_word" ["thing"] 2 sp_is_word) (cdv : Value) (A : Around) (outer : List Env) (s : Shared) (H : Hp) (E : XK) (hr : Room 2 (A.deeper (envOfC "is_operand" (defScope s_is_operand) s.heap.objs.size f cdv))) :
    TSs (cxOf CX0 P W K mg base n_is_operand "is_operand" (defScope s_is_operand) f cdv A outer s H E).nox (defBody s_is_operand) w_is_operand := by
  unfold w_is_operand
  exact (tss_cons (ts_if (tb_tru (tx_isi (n := "tuple") (tv 0) (by decide) rfl Tx.z_isinstance rfl Tx.z_tuple (by decide +kernel)))
    (tss_one (ts_ret (tx_and (tx_cmp (ox_eq (hu64 hr)) (tx_callB cx_len rfl Tx.z_len (by decide +kernel) (ta_cons (tv 0) ta_nil)) tx_int (nomark _)) (tx_and (tx_cmp (ox_eq (hu64 hr)) (tx_ix (tv 0) tx_int) tx_str (nomark _)) (tx_and (tx_isi (n := "str") (tx_ix (tv 0) tx_int) (by decide) rfl Tx.z_isinstance rfl Tx.z_str (by decide +kernel)) (tx_one (tx_call D_is_variable (hr.mono (by decide)) rfl (ta_cons (tx_ix (tv 0) tx_int) ta_nil))))))))
    tss_nil)
  (tss_one (ts_ret (tx_call D_is_word (hr.mono (by decide)) rfl (ta_cons (tv 0) ta_nil)))))
theorem bd_are_operands {f : Addr} (Tx : Txt K W mg) (D_is_operand : Def P W K mg base "is_operand" ["thing"] 3 sp_is_operand) (cdv : Value) (A : Around) (outer : List Env) (s : Shared) (H : Hp) (E : XK) (hr : Room 3 (A.deeper (envOfC "are_operands" (defScope s_are_operands) s.heap.objs.size f cdv))) :
    TSs (cxOf CX0 P W K mg base n_are_operands "are_operands" (defScope s_are_operands) f cdv A outer s H E).nox (defBody s_are_operands) w_are_operands := by
  unfold w_are_operands
  exact (tss_one (ts_ret (tx_and (tx_isi (n := "tuple") (tv 0) (by decide) rfl Tx.z_isinstance rfl Tx.z_tuple (by decide +kernel)) (tx_one (tx_callB (cx_all rfl) rfl Tx.z_all (by decide +kernel) (ta_cons (tx_lc (own := [("one", 1)]) (tg := (.nm 1)) rfl sc_are_operands.nd (tit_seq (tv 0)) (blkOk_by (own := [("one", 1)]) (N := n_are_operands) (sc := defScope s_are_operands) (by decide +kernel)) (fun _ _ _ _ _ => (pgn (pg_name (i := 1) sc_are_operands.nd rfl (Or.inl rfl)))) (fun _ _ _ _ _ => tbs_nil) (fun _ _ _ _ _ => (tx_call D_is_operand (hr.mono (by decide)) rfl (ta_cons (tv 1) ta_nil)))) ta_nil))))))
theorem bd_has_word {f : Addr} (Tx : Txt K W mg) (cdv : Value) (A : Around) (outer : List Env) (s : Shared) (H : Hp) (E : XK) (hr : Room 0 (A.deeper (envOfC "has_word" (defScope s_has_word) s.heap.objs.size f cdv))) :
    TSs (cxOf CX0 P W K mg base n_has_word "has_word" (defScope s_has_word) f cdv A outer s H E).nox (defBody s_has_word) w_has_word := by
  unfold w_has_word
  exact (tss_cons (ts_if (tb_w (tbw_or (tb_not (tb_tru (tx_isi (n := "tuple") (tv 0) (by decide) rfl Tx.z_isinstance rfl Tx.z_tuple (by decide +kernel)))) (tbw_or (tb_cmp (ox_eq (hu64 hr)) (tv 0) (tx_tup ta_nil) (nomark _)) (tbw_or1 (tb_not (tb_tru (tx_isi (n := "str") (tx_ix (tv 0) tx_int) (by decide) rfl Tx.z_isinstance rfl Tx.z_str (by decide +kernel))))))))
    (tss_one (ts_ret tx_bl))
    tss_nil)
  (tss_one (ts_ret (tx_cmp (ox_eq (hu64 hr)) (tx_if (tb_tru (tv 1)) (tx_kget rfl Tx.g_END_PARTS (tx_ix (tv 0) tx_int)) (tx_kget rfl Tx.g_PARTS (tx_ix (tv 0) tx_int))) (tx_callB cx_len rfl Tx.z_len (by decide +kernel) (ta_cons (tv 0) ta_nil)) (nomark _)))))
theorem bd_is_instruction {f : Addr} (Tx : Txt K W mg) (D_are_operands : Def P W K mg base "are_operands" ["thing"] 4 sp_are_operands) (D_has_word : Def P W K mg base "has_word" ["thing", "is_end"] 1 sp_has_word) (D_is_full_name : Def P W K mg base "is_full_name" ["thing"] 2 sp_is_full_name) (D_is_operand : Def P W K mg base "is_operand" ["thing"] 3 sp_is_operand) (D_is_value : Def P W K mg base "is_value" ["thing"] 4 sp_is_value) (D_is_variable : Def P W K mg base "is_variable" ["thing"] 2 sp_is_variable) (cdv : Value) (A : Around) (outer : List Env) (s : Shared) (H : Hp) (E : XK) (hr : Room 4 (A.deeper (envOfC "is_instruction" (defScope s_is_instruction) s.heap.objs.size f cdv))) :
    TSs (cxOf CX0 P W K mg base n_is_instruction "is_instruction" (defScope s_is_instruction) f cdv A outer s H E).nox (defBody s_is_instruction) w_is_instruction := by
  unfold w_is_instruction
  exact (tss_cons (ts_if (tb_not (tb_tru (tx_call D_has_word (hr.mono (by decide)) rfl (ta_cons (tv 0) (ta_cons tx_bl ta_nil)))))
    (tss_one (ts_ret tx_bl))
    tss_nil)
  (tss_cons (ts_set (i := 1) sc_is_instruction.nd rfl (Or.inl rfl) (tx_ix (tv 0) tx_int))
  (tss_cons (ts_if (tb_cmp (ox_eq (hu64 hr)) (tv 1) tx_str (nomark _))
    (tss_one (ts_ret (tx_and (tx_call D_is_variable (hr.mono (by decide)) rfl (ta_cons (tx_ix (tv 0) tx_int) ta_nil)) (tx_one (tx_call D_is_value (hr.mono (by decide)) rfl (ta_cons (tx_ix (tv 0) tx_int) ta_nil))))))
    tss_nil)
  (tss_cons (ts_if (tb_cmp (ox_eq (hu64 hr)) (tv 1) tx_str (nomark _))
    (tss_one (ts_ret (tx_and (tx_call D_is_variable (hr.mono (by decide)) rfl (ta_cons (tx_ix (tv 0) tx_int) ta_nil)) (tx_one (tx_call D_is_variable (hr.mono (by decide)) rfl (ta_cons (tx_ix (tv 0) tx_int) ta_nil))))))
    tss_nil)
  (tss_cons (ts_if (tb_cmp (ox_eq (hu64 hr)) (tv 1) tx_str (nomark _))
    (tss_one (ts_ret (tx_and (tx_call D_is_variable (hr.mono (by decide)) rfl (ta_cons (tx_ix (tv 0) tx_int) ta_nil)) (tx_and (tx_isi (n := "str") (tx_ix (tv 0) tx_int) (by decide) rfl Tx.z_isinstance rfl Tx.z_str (by decide +kernel)) (tx_and (tx_inK (hu64 hr) rfl Tx.g_OPS (tx_ix (tv 0) tx_int)) (tx_one (tx_call D_are_operands (hr.mono (by decide)) rfl (ta_cons (tx_sl (tv 0) (to_some tx_int) to_none) ta_nil))))))))
    tss_nil)
  (tss_cons (ts_if (tb_cmp (ox_in (hu64 hr)) (tv 1) (tx_tup (ta_cons tx_str (ta_cons tx_str ta_nil))) (by rfl))
    (tss_one (ts_ret (tx_and (tx_call D_is_variable (hr.mono (by decide)) rfl (ta_cons (tx_ix (tv 0) tx_int) ta_nil)) (tx_and (tx_call D_is_full_name (hr.mono (by decide)) rfl (ta_cons (tx_ix (tv 0) tx_int) ta_nil)) (tx_one (tx_call D_are_operands (hr.mono (by decide)) rfl (ta_cons (tx_sl (tv 0) (to_some tx_int) to_none) ta_nil)))))))
    tss_nil)
  (tss_cons (ts_if (tb_cmp (ox_in (hu64 hr)) (tv 1) (tx_tup (ta_cons tx_str (ta_cons tx_str ta_nil))) (by rfl))
    (tss_one (ts_ret (tx_and (tx_call D_is_full_name (hr.mono (by decide)) rfl (ta_cons (tx_ix (tv 0) tx_int) ta_nil)) (tx_one (tx_call D_are_operands (hr.mono (by decide)) rfl (ta_cons (tx_sl (tv 0) (to_some tx_int) to_none) ta_nil))))))
    tss_nil)
  (tss_cons (ts_if (tb_cmp (ox_eq (hu64 hr)) (tv 1) tx_str (nomark _))
    (tss_one (ts_ret (tx_call D_is_operand (hr.mono (by decide)) rfl (ta_cons (tx_ix (tv 0) tx_int) ta_nil))))
    tss_nil)
  (tss_cons (ts_if (tb_w (tbw_or (tb_not (tb_w (tbw_or (tb_cmp ox_is (tx_ix (tv 0) tx_int) tx_non (nomark _)) (tbw_or1 (tb_tru (tx_call D_is_variable (hr.mono (by decide)) rfl (ta_cons (tx_ix (tv 0) tx_int) ta_nil))))))) (tbw_or1 (tb_not (tb_tru (tx_call D_are_operands (hr.mono (by decide)) rfl (ta_cons (tx_ix (tv 0) tx_int) ta_nil)))))))
    (tss_one (ts_ret tx_bl))
    tss_nil)
  (tss_one (ts_ret (tx_if (tb_cmp (ox_eq (hu64 hr)) (tv 1) tx_str (nomark _)) (tx_call D_is_full_name (hr.mono (by decide)) rfl (ta_cons (tx_ix (tv 0) tx_int) ta_nil)) (tx_and (tx_call D_is_variable (hr.mono (by decide)) rfl (ta_cons (tx_ix (tv 0) tx_int) ta_nil)) (tx_one (tx_cmp ox_le (tx_callB cx_len rfl Tx.z_len (by decide +kernel) (ta_cons (tx_ix (tv 0) tx_int) ta_nil)) (tx_gint rfl Tx.g_MOST_ARGUMENTS) (nomark _))))))))))))))))
theorem bd_is_block_number {f : Addr} (Tx : Txt K W mg) (D_is_integer : Def P W K mg base "is_integer" ["thing"] 1 sp_is_integer) (cdv : Value) (A : Around) (outer : List Env) (s : Shared) (H : Hp) (E : XK) (hr : Room 1 (A.deeper (envOfC "is_block_number" (defScope s_is_block_number) s.heap.objs.size f cdv))) :
    TSs (cxOf CX0 P W K mg base n_is_block_number "is_block_number" (defScope s_is_block_number) f cdv A outer s H E).nox (defBody s_is_block_number) w_is_block_number := by
  unfold w_is_block_number
  exact (tss_one (ts_ret (tx_and (tx_call D_is_integer (hr.mono (by decide)) rfl (ta_cons (tv 0) ta_nil)) (tx_one (tx_chain ox_le ox_lt tx_int (tv 0) (tv 1))))))
theorem bd_is_terminator {f : Addr} (Tx : Txt K W mg) (D_has_word : Def P W K mg base "has_word" ["thing", "is_end"] 1 sp_has_word) (D_is_block_number : Def P W K mg base "is_block_number" ["thing", "count"] 2 sp_is_block_number) (D_is_operand : Def P W K mg base "is_operand" ["thing"] 3 sp_is_operand) (D_is_word : Def P W K mg base "is_word" ["thing"] 2 sp_is_word) (cdv : Value) (A : Around) (outer : List Env) (s : Shared) (H : Hp) (E : XK) (hr : Room 3 (A.deeper (envOfC "is_terminator" (defScope s_is_terminator) s.heap.objs.size f cdv))) :
    TSs (cxOf CX0 P W K mg base n_is_terminator "is_terminator" (defScope s_is_terminator) f cdv A outer s H E).nox (defBody s_is_terminator) w_is_terminator := by
  unfold w_is_terminator
  exact (tss_cons (ts_if (tb_not (tb_tru (tx_call D_has_word (hr.mono (by decide)) rfl (ta_cons (tv 0) (ta_cons tx_bl ta_nil)))))
    (tss_one (ts_ret tx_bl))
    tss_nil)
  (tss_cons (ts_set (i := 2) sc_is_terminator.nd rfl (Or.inl rfl) (tx_ix (tv 0) tx_int))
  (tss_cons (ts_if (tb_cmp (ox_eq (hu64 hr)) (tv 2) tx_str (nomark _))
    (tss_one (ts_ret (tx_call D_is_block_number (hr.mono (by decide)) rfl (ta_cons (tx_ix (tv 0) tx_int) (ta_cons (tv 1) ta_nil)))))
    tss_nil)
  (tss_cons (ts_if (tb_cmp (ox_eq (hu64 hr)) (tv 2) tx_str (nomark _))
    (tss_one (ts_ret (tx_and (tx_call D_is_operand (hr.mono (by decide)) rfl (ta_cons (tx_ix (tv 0) tx_int) ta_nil)) (tx_one (tx_callB (cx_all rfl) rfl Tx.z_all (by decide +kernel) (ta_cons (tx_lc (own := [("block", 3)]) (tg := (.nm 3)) rfl sc_is_terminator.nd (tit_seq (tx_sl (tv 0) (to_some tx_int) to_none)) (blkOk_by (own := [("block", 3)]) (N := n_is_terminator) (sc := defScope s_is_terminator) (by decide +kernel)) (fun _ _ _ _ _ => (pgn (pg_name (i := 3) sc_is_terminator.nd rfl (Or.inl rfl)))) (fun _ _ _ _ _ => tbs_nil) (fun _ _ _ _ _ => (tx_call D_is_block_number (hr.mono (by decide)) rfl (ta_cons (tv 3) (ta_cons (tv 1) ta_nil))))) ta_nil))))))
    tss_nil)
  (tss_cons (ts_if (tb_cmp (ox_eq (hu64 hr)) (tv 2) tx_str (nomark _))
    (tss_one (ts_ret (tx_or (tx_cmp ox_is (tx_ix (tv 0) tx_int) tx_non (nomark _)) (tx_one (tx_call D_is_operand (hr.mono (by decide)) rfl (ta_cons (tx_ix (tv 0) tx_int) ta_nil))))))
    tss_nil)
  (tss_one (ts_ret (tx_call D_is_word (hr.mono (by decide)) rfl (ta_cons (tx_ix (tv 0) tx_int) ta_nil)))))))))
theorem bd_is_block {f : Addr} (Tx : Txt K W mg) (D_is_instruction : Def P W K mg base "is_instruction" ["thing"] 5 sp_is_instruction) (D_is_terminator : Def P W K mg base "is_terminator" ["thing", "count"] 4 sp_is_terminator) (cdv : Value) (A : Around) (outer : List Env) (s : Shared) (H : Hp) (E : XK) (hr : Room 5 (A.deeper (envOfC "is_block" (defScope s_is_block) s.heap.objs.size f cdv))) :
    TSs (cxOf CX0 P W K mg base n_is_block "is_block" (defScope s_is_block) f cdv A outer s H E).nox (defBody s_is_block) w_is_block := by
  unfold w_is_block
  exact (tss_cons (ts_if (tb_w (tbw_or (tb_not (tb_tru (tx_isi (n := "tuple") (tv 0) (by decide) rfl Tx.z_isinstance rfl Tx.z_tuple (by decide +kernel)))) (tbw_or (tb_cmp (ox_ne (hu64 hr)) (tx_callB cx_len rfl Tx.z_len (by decide +kernel) (ta_cons (tv 0) ta_nil)) tx_int (nomark _)) (tbw_or1 (tb_not (tb_tru (tx_isi (n := "tuple") (tx_ix (tv 0) tx_int) (by decide) rfl Tx.z_isinstance rfl Tx.z_tuple (by decide +kernel))))))))
    (tss_one (ts_ret tx_bl))
    tss_nil)
  (tss_one (ts_ret (tx_and (tx_callB (cx_all rfl) rfl Tx.z_all (by decide +kernel) (ta_cons (tx_lc (own := [("one", 2)]) (tg := (.nm 2)) rfl sc_is_block.nd (tit_seq (tx_ix (tv 0) tx_int)) (blkOk_by (own := [("one", 2)]) (N := n_is_block) (sc := defScope s_is_block) (by decide +kernel)) (fun _ _ _ _ _ => (pgn (pg_name (i := 2) sc_is_block.nd rfl (Or.inl rfl)))) (fun _ _ _ _ _ => tbs_nil) (fun _ _ _ _ _ => (tx_call D_is_instruction (hr.mono (by decide)) rfl (ta_cons (tv 2) ta_nil)))) ta_nil)) (tx_one (tx_call D_is_terminator (hr.mono (by decide)) rfl (ta_cons (tx_ix (tv 0) tx_int) (ta_cons (tv 1) ta_nil))))))))
theorem bd_is_graph_value {f : Addr} (Tx : Txt K W mg) (D_is_block : Def P W K mg base "is_block" ["thing", "count"] 6 sp_is_block) (D_is_integer : Def P W K mg base "is_integer" ["thing"] 1 sp_is_integer) (D_size_of : Def P W K mg base "size_of" ["graph"] 1 sp_size_of) (cdv : Value) (A : Around) (outer : List Env) (s : Shared) (H : Hp) (E : XK) (hr : Room 6 (A.deeper (envOfC "is_graph_value" (defScope s_is_graph_value) s.heap.objs.size f cdv))) :
    TSs (cxOf CX0 P W K mg base n_is_graph_value "is_graph_value" (defScope s_is_graph_value) f cdv A outer s H E).nox (defBody s_is_graph_value) w_is_graph_value := by
  unfold w_is_graph_value
  exact (tss_cons (ts_if (tb_w (tbw_or (tb_not (tb_tru (tx_isi (n := "tuple") (tv 0) (by decide) rfl Tx.z_isinstance rfl Tx.z_tuple (by decide +kernel)))) (tbw_or (tb_cmp (ox_ne (hu64 hr)) (tx_callB cx_len rfl Tx.z_len (by decide +kernel) (ta_cons (tv 0) ta_nil)) tx_int (nomark _)) (tbw_or (tb_not (tb_tru (tx_isi (n := "tuple") (tx_ix (tv 0) tx_int) (by decide) rfl Tx.z_isinstance rfl Tx.z_tuple (by decide +kernel)))) (tbw_or1 (tb_cmp (ox_eq (hu64 hr)) (tx_ix (tv 0) tx_int) (tx_tup ta_nil) (nomark _)))))))
    (tss_one (ts_ret tx_bl))
    tss_nil)
  (tss_cons (ts_if (tb_w (tbw_or (tb_not (tb_tru (tx_call D_is_integer (hr.mono (by decide)) rfl (ta_cons (tx_ix (tv 0) tx_int) ta_nil)))) (tbw_or1 (tb_not (tb_chain ox_le ox_le tx_int (tx_ix (tv 0) tx_int) (tx_gint rfl Tx.g_MOST_ARGUMENTS))))))
    (tss_one (ts_ret tx_bl))
    tss_nil)
  (tss_one (ts_ret (tx_and (tx_callB (cx_all rfl) rfl Tx.z_all (by decide +kernel) (ta_cons (tx_lc (own := [("block", 1)]) (tg := (.nm 1)) rfl sc_is_graph_value.nd (tit_seq (tx_ix (tv 0) tx_int)) (blkOk_by (own := [("block", 1)]) (N := n_is_graph_value) (sc := defScope s_is_graph_value) (by decide +kernel)) (fun _ _ _ _ _ => (pgn (pg_name (i := 1) sc_is_graph_value.nd rfl (Or.inl rfl)))) (fun _ _ _ _ _ => tbs_nil) (fun _ _ _ _ _ => (tx_call D_is_block (hr.mono (by decide)) rfl (ta_cons (tv 1) (ta_cons (tx_callB cx_len rfl Tx.z_len (by decide +kernel) (ta_cons (tx_ix (tv 0) tx_int) ta_nil)) ta_nil))))) ta_nil)) (tx_one (tx_cmp ox_le (tx_call D_size_of (hr.mono (by decide)) rfl (ta_cons (tv 0) ta_nil)) (tx_gint rfl Tx.g_MOST_SIZE) (nomark _))))))))
theorem bd_is_graph {f : Addr} (Tx : Txt K W mg) (D_is_graph_value : Def P W K mg base "is_graph_value" ["thing"] 7 sp_is_graph_value) (cdv : Value) (A : Around) (outer : List Env) (s : Shared) (H : Hp) (E : XK) (hr : Room 7 (A.deeper (envOfC "is_graph" (defScope s_is_graph) s.heap.objs.size f cdv))) :
    TSs (cxOf CX0 P W K mg base n_is_graph "is_graph" (defScope s_is_graph) f cdv A outer s H E).nox (defBody s_is_graph) w_is_graph := by
  unfold w_is_graph
  exact (tss_one (ts_ret (tx_call D_is_graph_value (hr.mono (by decide)) rfl (ta_cons (tv 0) ta_nil))))
theorem bd_law_deck {f : Addr} (Tx : Txt K W mg) (cdv : Value) (A : Around) (outer : List Env) (s : Shared) (H : Hp) (E : XK) (hr : Room 0 (A.deeper (envOfC "_law_deck" (defScope s_law_deck) s.heap.objs.size f cdv))) :
    TSs (cxOf CX0 P W K mg base n_law_deck "_law_deck" (defScope s_law_deck) f cdv A outer s H E).nox (defBody s_law_deck) w_law_deck := by
  unfold w_law_deck
  exact (tss_cons (ts_set (i := 1) sc_law_deck.nd rfl (Or.inl rfl) tx_int)
  (tss_cons (ts_for (tg := (.nm 2)) PassesOwn.never rfl (tit_seq (tx_sl (tv 0) to_none (to_some tx_int))) (pgn (pg_name (i := 2) sc_law_deck.nd rfl (Or.inl rfl)))
    (tss_one (ts_set (i := 1) sc_law_deck.nd rfl (Or.inl rfl) (tx_op ox_mod (tx_callTy cx_int rfl Tx.z_int (by decide +kernel) (ta_cons (tx_op ox_add (tx_op ox_add (tx_op ox_mul (tv 1) tx_int) (tx_op ox_mod (tx_callTy cx_int rfl Tx.z_int (by decide +kernel) (ta_cons (tv 2) ta_nil)) tx_int)) tx_int) ta_nil)) tx_int))))
  (tss_one (ts_ret (tx_disp (tps_cons tx_str (tx_revC (tx_callTy cx_list rfl Tx.z_list (by decide +kernel) (ta_cons (tx_sl (tv 0) to_none (to_some tx_int)) ta_nil))) (tps_cons tx_str (tv 1) (tps_cons tx_str tx_int tps_nil))))))))
theorem bd_law_draw {f : Addr} (Tx : Txt K W mg) (cdv : Value) (A : Around) (outer : List Env) (s : Shared) (H : Hp) (E : XK) (hr : Room 0 (A.deeper (envOfC "_law_draw" (defScope s_law_draw) s.heap.objs.size f cdv))) :
    TSs (cxOf CX0 P W K mg base n_law_draw "_law_draw" (defScope s_law_draw) f cdv A outer s H E).nox (defBody s_law_draw) w_law_draw := by
  unfold w_law_draw
  exact (tss_cons (ts_dput (hu_of hr) (tv 0) tx_str (tx_op ox_add (tx_dget (hu_of hr) (tv 0) tx_str) tx_int))
  (tss_cons (ts_set (i := 2) sc_law_draw.nd rfl (Or.inl rfl) (tx_op ox_add (tx_dget (hu_of hr) (tv 0) tx_str) (tx_op ox_mul tx_int (tx_dget (hu_of hr) (tv 0) tx_str))))
  (tss_cons (ts_if (tb_cmp (ox_ne (hu64 hr)) (tx_dget (hu_of hr) (tv 0) tx_str) (tx_lst ta_nil) (nomark _))
    (tss_cons (ts_set (i := 3) sc_law_draw.nd rfl (Or.inl rfl) (tx_meth0 PySem.F.plainAttrs_list PySem.F.slot_list_pop PySem.F.type_list_pop mx_pop0 (tx_dget (hu_of hr) (tv 0) tx_str)))
  (tss_cons (ts_if (tb_cmp ox_ge (tv 3) (tx_op ox_pow tx_int tx_int) (nomark _))
    (tss_cons (ts_expr (tx_meth PySem.F.plainAttrs_list PySem.F.slot_list_append PySem.F.type_list_append mx_append (tx_dget (hu_of hr) (tv 0) tx_str) (ta_cons (tx_op ox_div (tv 3) (tx_callB (cx_max2 rfl) rfl Tx.z_max (by decide +kernel) (ta_cons tx_int (ta_cons (tv 1) ta_nil)))) ta_nil)))
  (tss_one (ts_ret (tx_op ox_mod (tx_callTy cx_int rfl Tx.z_int (by decide +kernel) (ta_cons (tv 3) ta_nil)) (tv 1)))))
    tss_nil)
  (tss_one (ts_set (i := 2) sc_law_draw.nd rfl (Or.inl rfl) (tx_op ox_add (tv 2) (tx_op ox_mod (tx_callTy cx_int rfl Tx.z_int (by decide +kernel) (ta_cons (tv 3) ta_nil)) tx_int))))))
    tss_nil)
  (tss_cons (ts_set (i := 2) sc_law_draw.nd rfl (Or.inl rfl) (tx_op ox_mod (tx_callTy cx_int rfl Tx.z_int (by decide +kernel) (ta_cons (tx_op ox_add (tx_op ox_mul (tv 2) tx_int) tx_int) ta_nil)) tx_int))
  (tss_cons (ts_set (i := 2) sc_law_draw.nd rfl (Or.inl rfl) (tx_op ox_mod (tx_callTy cx_int rfl Tx.z_int (by decide +kernel) (ta_cons (tx_op ox_add (tx_op ox_add (tx_op ox_mul (tv 2) (tv 2)) (tx_op ox_mul tx_int (tx_dget (hu_of hr) (tv 0) tx_str))) tx_int) ta_nil)) tx_int))
  (tss_one (ts_ret (tx_op ox_mod (tx_callTy cx_int rfl Tx.z_int (by decide +kernel) (ta_cons (tx_op ox_div (tv 2) tx_int) ta_nil)) (tv 1)))))))))
theorem bd_law_pick {f : Addr} (Tx : Txt K W mg) (D_law_draw : Def P W K mg base "_law_draw" ["deck", "many"] 1 sp_law_draw) (cdv : Value) (A : Around) (outer : List Env) (s : Shared) (H : Hp) (E : XK) (hr : Room 1 (A.deeper (envOfC "_law_pick" (defScope s_law_pick) s.heap.objs.size f cdv))) :
    TSs (cxOf CX0 P W K mg base n_law_pick "_law_pick" (defScope s_law_pick) f cdv A outer s H E).nox (defBody s_law_pick) w_law_pick := by
  unfold w_law_pick
  exact (tss_one (ts_ret (tx_ix (tv 1) (tx_call D_law_draw (hr.mono (by decide)) rfl (ta_cons (tv 0) (ta_cons (tx_callB cx_len rfl Tx.z_len (by decide +kernel) (ta_cons (tv 1) ta_nil)) ta_nil))))))
theorem bd_law_shuffled {f : Addr} (Tx : Txt K W mg) (D_law_draw : Def P W K mg base "_law_draw" ["deck", "many"] 1 sp_law_draw) (cdv : Value) (A : Around) (outer : List Env) (s : Shared) (H : Hp) (E : XK) (hr : Room 1 (A.deeper (envOfC "_law_shuffled" (defScope s_law_shuffled) s.heap.objs.size f cdv))) :
    TSs (cxOf CX0 P W K mg base n_law_shuffled "_law_shuffled" (defScope s_law_shuffled) f cdv A outer s H E).nox (defBody s_law_shuffled) w_law_shuffled := by
  unfold w_law_shuffled
  exact (tss_cons (ts_par (i := 2) (j := 3) rfl sc_law_shuffled.nd rfl rfl (by decide) rfl rfl (tx_callTy cx_listC rfl Tx.z_list (by decide +kernel) (ta_cons (tv 1) ta_nil)) (tx_cell ta_nil))
  (tss_cons (ts_for (tg := (.nm 4)) PassesOwn.never rfl (tit_rng1 rfl Tx.z_range (tx_callB cx_len rfl Tx.z_len (by decide +kernel) (ta_cons (tv 2) ta_nil))) (pgn (pg_name (i := 4) sc_law_shuffled.nd rfl (Or.inl rfl)))
    (tss_one (ts_expr (tx_meth PySem.F.plainAttrs_list PySem.F.slot_list_append PySem.F.type_list_append mx_append (tv 3) (ta_cons (tx_meth PySem.F.plainAttrs_list PySem.F.slot_list_pop PySem.F.type_list_pop mx_popAt (tv 2) (ta_cons (tx_call D_law_draw (hr.mono (by decide)) rfl (ta_cons (tv 0) (ta_cons (tx_callB cx_len rfl Tx.z_len (by decide +kernel) (ta_cons (tv 2) ta_nil)) ta_nil))) ta_nil)) ta_nil)))))
  (tss_one (ts_ret (tv 3)))))
theorem bd_law_is_whole {f : Addr} (Tx : Txt K W mg) (cdv : Value) (A : Around) (outer : List Env) (s : Shared) (H : Hp) (E : XK) (hr : Room 0 (A.deeper (envOfC "_law_is_whole" (defScope s_law_is_whole) s.heap.objs.size f cdv))) :
    TSs (cxOf CX0 P W K mg base n_law_is_whole "_law_is_whole" (defScope s_law_is_whole) f cdv A outer s H E).nox (defBody s_law_is_whole) w_law_is_whole := by
  unfold w_law_is_whole
  exact (tss_one (ts_ret (tx_and (tx_isi (n := "int") (tv 0) (by decide) rfl Tx.z_isinstance rfl Tx.z_int (by decide +kernel)) (tx_and (tx_not (tx_isi (n := "bool") (tv 0) (by decide) rfl Tx.z_isinstance rfl Tx.z_bool (by decide +kernel))) (tx_one (tx_chain ox_le ox_lt tx_int (tv 0) (tv 1)))))))
theorem bd_law_is_full_name {f : Addr} (Tx : Txt K W mg) (cdv : Value) (A : Around) (outer : List Env) (s : Shared) (H : Hp) (E : XK) (hr : Room 0 (A.deeper (envOfC "_law_is_full_name" (defScope s_law_is_full_name) s.heap.objs.size f cdv))) :
    TSs (cxOf CX0 P W K mg base n_law_is_full_name "_law_is_full_name" (defScope s_law_is_full_name) f cdv A outer s H E).nox (defBody s_law_is_full_name) w_law_is_full_name := by
  unfold w_law_is_full_name
  exact (tss_cons (ts_if (tb_not (tb_tru (tx_isi (n := "str") (tv 0) (by decide) rfl Tx.z_isinstance rfl Tx.z_str (by decide +kernel))))
    (tss_one (ts_ret tx_bl))
    tss_nil)
  (tss_cons (ts_set (i := 1) sc_law_is_full_name.nd rfl (Or.inl rfl) (tx_meth PySem.F.plainAttrs_str PySem.F.slot_str_split PySem.F.type_str_split mx_split (tv 0) (ta_cons tx_str ta_nil)))
  (tss_cons (ts_for (tg := (.nm 2)) PassesOwn.never rfl (tit_seq (tv 1)) (pgn (pg_name (i := 2) sc_law_is_full_name.nd rfl (Or.inl rfl)))
    (tss_one (ts_if (tb_w (tbw_or (tb_not (tb_chain ox_le ox_le tx_int (tx_callB cx_len rfl Tx.z_len (by decide +kernel) (ta_cons (tv 2) ta_nil)) tx_int)) (tbw_or1 (tb_cmp (ox_ne (hu64 hr)) (tx_lc (own := [("x", 3)]) (tg := (.nm 3)) rfl sc_law_is_full_name.nd (tit_seq (tv 2)) (blkOk_by (own := [("x", 3)]) (N := n_law_is_full_name) (sc := defScope s_law_is_full_name) (by decide +kernel)) (fun _ _ _ _ _ => (pgn (pg_name (i := 3) sc_law_is_full_name.nd rfl (Or.inl rfl)))) (fun _ _ _ _ _ => (tbs_one (tb_cmp (ox_notin (hu64 hr)) (tv 3) tx_str (by rfl)))) (fun _ _ _ _ _ => tx_int)) (tx_lst ta_nil) (nomark _)))))
    (tss_one (ts_ret tx_bl))
    tss_nil)))
  (tss_one (ts_ret (tx_and (tx_cmp ox_lt (tx_callB cx_len rfl Tx.z_len (by decide +kernel) (ta_cons (tv 1) ta_nil)) tx_int (nomark _)) (tx_one (tx_cmp (ox_ne (hu64 hr)) (tx_ix (tv 1) tx_int) tx_str (nomark _)))))))))
theorem bd_law_is_operand {f : Addr} (Tx : Txt K W mg) (D_law_is_whole : Def P W K mg base "_law_is_whole" ["thing", "many"] 1 sp_law_is_whole) (cdv : Value) (A : Around) (outer : List Env) (s : Shared) (H : Hp) (E : XK) (hr : Room 1 (A.deeper (envOfC "_law_is_operand" (defScope s_law_is_operand) s.heap.objs.size f cdv))) :
    TSs (cxOf CX0 P W K mg base n_law_is_operand "_law_is_operand" (defScope s_law_is_operand) f cdv A outer s H E).nox (defBody s_law_is_operand) w_law_is_operand := by
  unfold w_law_is_operand
  exact (tss_cons (ts_if (tb_tru (tx_isi (n := "tuple") (tv 0) (by decide) rfl Tx.z_isinstance rfl Tx.z_tuple (by decide +kernel)))
    (tss_one (ts_ret (tx_and (tx_cmp (ox_eq (hu64 hr)) (tx_callB cx_len rfl Tx.z_len (by decide +kernel) (ta_cons (tv 0) ta_nil)) tx_int (nomark _)) (tx_and (tx_cmp (ox_eq (hu64 hr)) (tx_ix (tv 0) tx_int) tx_str (nomark _)) (tx_one (tx_call D_law_is_whole (hr.mono (by decide)) rfl (ta_cons (tx_ix (tv 0) tx_int) (ta_cons tx_int ta_nil))))))))
    tss_nil)
  (tss_one (ts_ret (tx_call D_law_is_whole (hr.mono (by decide)) rfl (ta_cons (tv 0) (ta_cons tx_int ta_nil))))))
theorem bd_law_is_part {f : Addr} (Tx : Txt K W mg) (D_law_is_full_name : Def P W K mg base "_law_is_full_name" ["thing"] 1 sp_law_is_full_name) (D_law_is_operand : Def P W K mg base "_law_is_operand" ["thing"] 2 sp_law_is_operand) (D_law_is_whole : Def P W K mg base "_law_is_whole" ["thing", "many"] 1 sp_law_is_whole) (cdv : Value) (A : Around) (outer : List Env) (s : Shared) (H : Hp) (E : XK) (hr : Room 2 (A.deeper (envOfC "_law_is_part" (defScope s_law_is_part) s.heap.objs.size f cdv))) :
    TSs (cxOf CX0 P W K mg base n_law_is_part "_law_is_part" (defScope s_law_is_part) f cdv A outer s H E).nox (defBody s_law_is_part) w_law_is_part := by
  unfold w_law_is_part
  exact (tss_cons (ts_if (tb_w (tbw_or (tb_cmp (ox_eq (hu64 hr)) (tv 0) tx_str (nomark _)) (tbw_or1 (tb_cmp (ox_eq (hu64 hr)) (tv 0) tx_str (nomark _)))))
    (tss_one (ts_ret (tx_or (tx_call D_law_is_whole (hr.mono (by decide)) rfl (ta_cons (tv 1) (ta_cons tx_int ta_nil))) (tx_one (tx_and (tx_cmp (ox_eq (hu64 hr)) (tv 0) tx_str (nomark _)) (tx_one (tx_cmp ox_is (tv 1) tx_non (nomark _))))))))
    tss_nil)
  (tss_cons (ts_if (tb_w (tbw_or (tb_cmp (ox_eq (hu64 hr)) (tv 0) tx_str (nomark _)) (tbw_or1 (tb_cmp (ox_eq (hu64 hr)) (tv 0) tx_str (nomark _)))))
    (tss_one (ts_ret (tx_or (tx_call D_law_is_operand (hr.mono (by decide)) rfl (ta_cons (tv 1) ta_nil)) (tx_one (tx_and (tx_cmp (ox_eq (hu64 hr)) (tv 0) tx_str (nomark _)) (tx_one (tx_cmp ox_is (tv 1) tx_non (nomark _))))))))
    tss_nil)
  (tss_cons (ts_if (tb_cmp (ox_in (hu64 hr)) (tv 0) (tx_tup (ta_cons tx_str (ta_cons tx_str ta_nil))) (by rfl))
    (tss_one (ts_ret (tx_call D_law_is_full_name (hr.mono (by decide)) rfl (ta_cons (tv 1) ta_nil))))
    tss_nil)
  (tss_cons (ts_if (tb_cmp (ox_eq (hu64 hr)) (tv 0) tx_str (nomark _))
    (tss_one (ts_ret (tx_cmp (ox_in (hu64 hr)) (tv 1) (tx_tup (ta_cons tx_str (ta_cons tx_str (ta_cons tx_str (ta_cons tx_str (ta_cons tx_str (ta_cons tx_str (ta_cons tx_str (ta_cons tx_str ta_nil))))))))) (by rfl))))
    tss_nil)
  (tss_cons (ts_if (tb_cmp (ox_eq (hu64 hr)) (tv 0) tx_str (nomark _))
    (tss_cons (ts_if (tb_tru (tx_isi (n := "tuple") (tv 1) (by decide) rfl Tx.z_isinstance rfl Tx.z_tuple (by decide +kernel)))
    (tss_one (ts_ret (tx_and (tx_cmp (ox_eq (hu64 hr)) (tx_callB cx_len rfl Tx.z_len (by decide +kernel) (ta_cons (tv 1) ta_nil)) tx_int (nomark _)) (tx_and (tx_cmp (ox_eq (hu64 hr)) (tx_ix (tv 1) tx_int) tx_str (nomark _)) (tx_one (tx_call D_law_is_full_name (hr.mono (by decide)) rfl (ta_cons (tx_ix (tv 1) tx_int) ta_nil)))))))
    tss_nil)
  (tss_one (ts_ret (tx_call D_law_is_whole (hr.mono (by decide)) rfl (ta_cons (tv 1) (ta_cons tx_int ta_nil))))))
    tss_nil)
  (tss_cons (ts_if (tb_w (tbw_or (tb_cmp (ox_eq (hu64 hr)) (tv 0) tx_str (nomark _)) (tbw_or1 (tb_cmp (ox_eq (hu64 hr)) (tv 0) tx_str (nomark _)))))
    (tss_one (ts_ret (tx_and (tx_isi (n := "tuple") (tv 1) (by decide) rfl Tx.z_isinstance rfl Tx.z_tuple (by decide +kernel)) (tx_and (tx_cmp (ox_eq (hu64 hr)) (tx_lc (own := [("it", 3)]) (tg := (.nm 3)) rfl sc_law_is_part.nd (tit_seq (tv 1)) (blkOk_by (own := [("it", 3)]) (N := n_law_is_part) (sc := defScope s_law_is_part) (by decide +kernel)) (fun _ _ _ _ _ => (pgn (pg_name (i := 3) sc_law_is_part.nd rfl (Or.inl rfl)))) (fun _ _ _ _ _ => (tbs_one (tb_not (tb_tru (tx_call D_law_is_operand (hr.mono (by decide)) rfl (ta_cons (tv 3) ta_nil)))))) (fun _ _ _ _ _ => tx_int)) (tx_lst ta_nil) (nomark _)) (tx_one (tx_or (tx_cmp (ox_eq (hu64 hr)) (tv 0) tx_str (nomark _)) (tx_one (tx_cmp ox_lt (tx_callB cx_len rfl Tx.z_len (by decide +kernel) (ta_cons (tv 1) ta_nil)) tx_int (nomark _)))))))))
    tss_nil)
  (tss_one (ts_ret (tx_call D_law_is_whole (hr.mono (by decide)) rfl (ta_cons (tv 1) (ta_cons (tx_if (tb_cmp (ox_eq (hu64 hr)) (tv 0) tx_str (nomark _)) (tv 2) tx_int) ta_nil)))))))))))
theorem bd_law_forms {f : Addr} (Tx : Txt K W mg) (cdv : Value) (A : Around) (outer : List Env) (s : Shared) (H : Hp) (E : XK) (hr : Room 0 (A.deeper (envOfC "_law_forms" (defScope s_law_forms) s.heap.objs.size f cdv))) :
    TSs (cxOf CX0 P W K mg base n_law_forms "_law_forms" (defScope s_law_forms) f cdv A outer s H E).nox (defBody s_law_forms) w_law_forms := by
  unfold w_law_forms
  exact (tss_cons (ts_set (i := 0) sc_law_forms.nd rfl (Or.inl rfl) (tx_disp (tps_cons tx_str tx_str (tps_cons tx_str tx_str (tps_cons tx_str tx_str (tps_cons tx_str tx_str (tps_cons tx_str tx_str (tps_cons tx_str tx_str (tps_cons tx_str tx_str tps_nil)))))))))
  (tss_cons (ts_expr (tx_meth PySem.F.plainAttrs_dict PySem.F.slot_dict_update PySem.F.type_dict_update mx_update (tv 0) (ta_cons (tx_disp (tps_cons tx_str tx_str (tps_cons tx_str tx_str (tps_cons tx_str tx_str tps_nil)))) ta_nil)))
  (tss_one (ts_ret (tv 0)))))
theorem bd_law_is_built {f : Addr} (Tx : Txt K W mg) (D_law_is_part : Def P W K mg base "_law_is_part" ["kind", "thing", "blocks"] 3 sp_law_is_part) (cdv : Value) (A : Around) (outer : List Env) (s : Shared) (H : Hp) (E : XK) (hr : Room 3 (A.deeper (envOfC "_law_is_built" (defScope s_law_is_built) s.heap.objs.size f cdv))) :
    TSs (cxOf CX0 P W K mg base n_law_is_built "_law_is_built" (defScope s_law_is_built) f cdv A outer s H E).nox (defBody s_law_is_built) w_law_is_built := by
  unfold w_law_is_built
  exact (tss_cons (ts_if (tb_w (tbw_or (tb_not (tb_tru (tx_isi (n := "tuple") (tv 1) (by decide) rfl Tx.z_isinstance rfl Tx.z_tuple (by decide +kernel)))) (tbw_or (tb_cmp (ox_eq (hu64 hr)) (tv 1) (tx_tup ta_nil) (nomark _)) (tbw_or (tb_not (tb_tru (tx_isi (n := "str") (tx_ix (tv 1) tx_int) (by decide) rfl Tx.z_isinstance rfl Tx.z_str (by decide +kernel)))) (tbw_or1 (tb_dnotin (hu_of hr) (tx_ix (tv 1) tx_int) (tv 0)))))))
    (tss_one (ts_ret tx_bl))
    tss_nil)
  (tss_cons (ts_set (i := 3) sc_law_is_built.nd rfl (Or.inl rfl) (tx_dget (hu_of hr) (tv 0) (tx_ix (tv 1) tx_int)))
  (tss_cons (ts_if (tb_cmp (ox_ne (hu64 hr)) (tx_callB cx_len rfl Tx.z_len (by decide +kernel) (ta_cons (tv 1) ta_nil)) (tx_op ox_add (tx_callB cx_len rfl Tx.z_len (by decide +kernel) (ta_cons (tv 3) ta_nil)) tx_int) (nomark _))
    (tss_one (ts_ret tx_bl))
    tss_nil)
  (tss_one (ts_ret (tx_cmp (ox_eq (hu64 hr)) (tx_lc (own := [("kind", 4), ("it", 5)]) (tg := (.tp (.cons (.nm 4) (.cons (.nm 5) .nil)))) rfl sc_law_is_built.nd (tit_zip rfl Tx.z_zip (tv 3) (tx_sl (tv 1) (to_some tx_int) to_none)) (blkOk_by (own := [("kind", 4), ("it", 5)]) (N := n_law_is_built) (sc := defScope s_law_is_built) (by decide +kernel)) (fun _ _ _ _ _ => (pgt rfl (pgsc (pgn (pg_name (i := 4) sc_law_is_built.nd rfl (Or.inl rfl))) (pgsc (pgn (pg_name (i := 5) sc_law_is_built.nd rfl (Or.inl rfl))) pgsn)))) (fun _ _ _ _ _ => (tbs_one (tb_not (tb_tru (tx_call D_law_is_part (hr.mono (by decide)) rfl (ta_cons (tv 4) (ta_cons (tv 5) (ta_cons (tv 2) ta_nil)))))))) (fun _ _ _ _ _ => tx_int)) (tx_lst ta_nil) (nomark _)))))))
theorem bd_law_is_graph {f : Addr} (Tx : Txt K W mg) (D_law_forms : Def P W K mg base "_law_forms" [] 1 sp_law_forms) (D_law_is_built : Def P W K mg base "_law_is_built" ["forms", "thing", "blocks"] 4 sp_law_is_built) (D_law_is_whole : Def P W K mg base "_law_is_whole" ["thing", "many"] 1 sp_law_is_whole) (cdv : Value) (A : Around) (outer : List Env) (s : Shared) (H : Hp) (E : XK) (hr : Room 4 (A.deeper (envOfC "_law_is_graph" (defScope s_law_is_graph) s.heap.objs.size f cdv))) :
    TSs (cxOf CX0 P W K mg base n_law_is_graph "_law_is_graph" (defScope s_law_is_graph) f cdv A outer s H E).nox (defBody s_law_is_graph) w_law_is_graph := by
  unfold w_law_is_graph
  exact (tss_cons (ts_if (tb_w (tbw_or (tb_not (tb_tru (tx_isi (n := "tuple") (tv 0) (by decide) rfl Tx.z_isinstance rfl Tx.z_tuple (by decide +kernel)))) (tbw_or (tb_cmp (ox_ne (hu64 hr)) (tx_callB cx_len rfl Tx.z_len (by decide +kernel) (ta_cons (tv 0) ta_nil)) tx_int (nomark _)) (tbw_or1 (tb_not (tb_tru (tx_call D_law_is_whole (hr.mono (by decide)) rfl (ta_cons (tx_ix (tv 0) tx_int) (ta_cons tx_int ta_nil)))))))))
    (tss_one (ts_ret tx_bl))
    tss_nil)
  (tss_cons (ts_asg (tg := (.tp (.cons (.nm 1) (.cons (.nm 2) .nil)))) (tx_tup (ta_cons (tx_ix (tv 0) tx_int) (ta_cons tx_int ta_nil))) (pgt rfl (pgsc (pgn (pg_name (i := 1) sc_law_is_graph.nd rfl (Or.inr rfl))) (pgsc (pgn (pg_name (i := 2) sc_law_is_graph.nd rfl (Or.inl rfl))) pgsn))))
  (tss_cons (ts_if (tb_w (tbw_or (tb_not (tb_tru (tx_isi (n := "tuple") (tv 1) (by decide) rfl Tx.z_isinstance rfl Tx.z_tuple (by decide +kernel)))) (tbw_or1 (tb_cmp (ox_eq (hu64 hr)) (tv 1) (tx_tup ta_nil) (nomark _)))))
    (tss_one (ts_ret tx_bl))
    tss_nil)
  (tss_cons (ts_asg (tg := (.tp (.cons (.nm 3) (.cons (.nm 4) .nil)))) (tx_tup (ta_cons (tx_disp (tps_cons tx_str tx_str (tps_cons tx_str tx_str (tps_cons tx_str tx_str (tps_cons tx_str tx_str tps_nil))))) (ta_cons (tx_call0 D_law_forms (hr.mono (by decide)) rfl) ta_nil))) (pgt rfl (pgsc (pgn (pg_name (i := 3) sc_law_is_graph.nd rfl (Or.inl rfl))) (pgsc (pgn (pg_name (i := 4) sc_law_is_graph.nd rfl (Or.inr rfl))) pgsn))))
  (tss_cons (ts_for (tg := (.nm 5)) PassesOwn.never rfl (tit_seq (tv 1)) (pgn (pg_name (i := 5) sc_law_is_graph.nd rfl (Or.inl rfl)))
    (tss_cons (ts_if (tb_w (tbw_or (tb_not (tb_tru (tx_isi (n := "tuple") (tv 5) (by decide) rfl Tx.z_isinstance rfl Tx.z_tuple (by decide +kernel)))) (tbw_or (tb_cmp (ox_ne (hu64 hr)) (tx_callB cx_len rfl Tx.z_len (by decide +kernel) (ta_cons (tv 5) ta_nil)) tx_int (nomark _)) (tbw_or1 (tb_not (tb_tru (tx_isi (n := "tuple") (tx_ix (tv 5) tx_int) (by decide) rfl Tx.z_isinstance rfl Tx.z_tuple (by decide +kernel))))))))
    (tss_one (ts_ret tx_bl))
    tss_nil)
  (tss_cons (ts_set (i := 2) sc_law_is_graph.nd rfl (Or.inl rfl) (tx_op ox_add (tx_op ox_add (tv 2) (tx_callB cx_len rfl Tx.z_len (by decide +kernel) (ta_cons (tx_ix (tv 5) tx_int) ta_nil))) tx_int))
  (tss_cons (ts_if (tb_not (tb_tru (tx_call D_law_is_built (hr.mono (by decide)) rfl (ta_cons (tv 3) (ta_cons (tx_ix (tv 5) tx_int) (ta_cons (tx_callB cx_len rfl Tx.z_len (by decide +kernel) (ta_cons (tv 1) ta_nil)) ta_nil))))))
    (tss_one (ts_ret tx_bl))
    tss_nil)
  (tss_one (ts_if (tb_cmp (ox_ne (hu64 hr)) (tx_lc (own := [("row", 6)]) (tg := (.nm 6)) rfl sc_law_is_graph.nd (tit_seq (tx_ix (tv 5) tx_int)) (blkOk_by (own := [("row", 6)]) (N := n_law_is_graph) (sc := defScope s_law_is_graph) (by decide +kernel)) (fun _ _ _ _ _ => (pgn (pg_name (i := 6) sc_law_is_graph.nd rfl (Or.inl rfl)))) (fun _ _ _ _ _ => (tbs_one (tb_not (tb_tru (tx_call D_law_is_built (hr.mono (by decide)) rfl (ta_cons (tv 4) (ta_cons (tv 6) (ta_cons (tx_callB cx_len rfl Tx.z_len (by decide +kernel) (ta_cons (tv 1) ta_nil)) ta_nil)))))))) (fun _ _ _ _ _ => tx_int)) (tx_lst ta_nil) (nomark _))
    (tss_one (ts_ret tx_bl))
    tss_nil))))))
  (tss_one (ts_ret (tx_cmp ox_le (tv 2) tx_int (nomark _)))))))))
theorem bd_law_wrongs {f : Addr} (Tx : Txt K W mg) (cdv : Value) (A : Around) (outer : List Env) (s : Shared) (H : Hp) (E : XK) (hr : Room 0 (A.deeper (envOfC "_law_wrongs" (defScope s_law_wrongs) s.heap.objs.size f cdv))) :
    TSs (cxOf CX0 P W K mg base n_law_wrongs "_law_wrongs" (defScope s_law_wrongs) f cdv A outer s H E).nox (defBody s_law_wrongs) w_law_wrongs := by
  unfold w_law_wrongs
  exact (tss_cons (ts_set (i := 0) sc_law_wrongs.nd rfl (Or.inl rfl) (tx_lst (ta_cons (tx_un ux_neg tx_int) (ta_cons tx_bl (ta_cons tx_non (ta_cons tx_str (ta_cons (tx_tup (ta_cons tx_int ta_nil)) (ta_cons (tx_op ox_pow tx_int tx_int) (ta_cons (tx_lst ta_nil) (ta_cons tx_bl ta_nil))))))))))
  (tss_cons (ts_set (i := 1) sc_law_wrongs.nd rfl (Or.inl rfl) (tx_disp (tps_cons tx_str (tx_op ox_add (tv 0) (tx_lst (ta_cons tx_int (ta_cons (tx_tup (ta_cons tx_str (ta_cons tx_int ta_nil))) ta_nil)))) (tps_cons tx_str (tx_op ox_add (tx_lc (own := [("it", 2)]) (tg := (.nm 2)) rfl sc_law_wrongs.nd (tit_seq (tv 0)) (blkOk_by (own := [("it", 2)]) (N := n_law_wrongs) (sc := defScope s_law_wrongs) (by decide +kernel)) (fun _ _ _ _ _ => (pgn (pg_name (i := 2) sc_law_wrongs.nd rfl (Or.inl rfl)))) (fun _ _ _ _ _ => (tbs_one (tb_cmp ox_isnot (tv 2) tx_non (nomark _)))) (fun _ _ _ _ _ => (tv 2))) (tx_lst (ta_cons tx_int (ta_cons (tx_tup (ta_cons tx_str (ta_cons tx_int ta_nil))) ta_nil)))) tps_nil))))
  (tss_cons (ts_dput (hu_of hr) (tv 1) tx_str (tx_op ox_add (tv 0) (tx_lst (ta_cons tx_int (ta_cons (tx_tup (ta_cons tx_str ta_nil)) (ta_cons (tx_tup (ta_cons tx_str (ta_cons (tx_un ux_neg tx_int) ta_nil))) (ta_cons (tx_tup (ta_cons tx_str (ta_cons tx_bl ta_nil))) (ta_cons (tx_tup (ta_cons tx_str (ta_cons tx_int ta_nil))) (ta_cons (tx_tup (ta_cons tx_str (ta_cons tx_str ta_nil))) (ta_cons (tx_lst (ta_cons tx_str (ta_cons tx_int ta_nil))) (ta_cons (tx_tup (ta_cons tx_str (ta_cons tx_str ta_nil))) ta_nil)))))))))))
  (tss_cons (ts_dput (hu_of hr) (tv 1) tx_str (tx_op ox_add (tx_dget (hu_of hr) (tv 1) tx_str) (tx_lst (ta_cons (tx_tup (ta_cons tx_str (ta_cons tx_int ta_nil))) (ta_cons (tx_tup (ta_cons tx_str (ta_cons tx_int (ta_cons tx_int ta_nil)))) (ta_cons (tx_tup (ta_cons tx_str (ta_cons tx_int ta_nil))) (ta_cons (tx_tup (ta_cons (tx_tup ta_nil) (ta_cons tx_int ta_nil))) (ta_cons (tx_tup (ta_cons tx_str (ta_cons tx_non ta_nil))) ta_nil))))))))
  (tss_cons (ts_dput (hu_of hr) (tv 1) tx_str (tx_op ox_add (tx_lc (own := [("it", 2)]) (tg := (.nm 2)) rfl sc_law_wrongs.nd (tit_seq (tx_dget (hu_of hr) (tv 1) tx_str)) (blkOk_by (own := [("it", 2)]) (N := n_law_wrongs) (sc := defScope s_law_wrongs) (by decide +kernel)) (fun _ _ _ _ _ => (pgn (pg_name (i := 2) sc_law_wrongs.nd rfl (Or.inl rfl)))) (fun _ _ _ _ _ => (tbs_one (tb_cmp ox_isnot (tv 2) tx_non (nomark _)))) (fun _ _ _ _ _ => (tv 2))) (tx_lst (ta_cons (tx_tup ta_nil) ta_nil))))
  (tss_cons (ts_dput (hu_of hr) (tv 1) tx_str (tx_op ox_add (tv 0) (tx_lst (ta_cons tx_str (ta_cons tx_str (ta_cons tx_str (ta_cons tx_str (ta_cons tx_str (ta_cons tx_str (ta_cons tx_str (ta_cons tx_str (ta_cons tx_str (ta_cons tx_str (ta_cons (tx_tup (ta_cons tx_str ta_nil)) (ta_cons tx_str (ta_cons tx_str ta_nil))))))))))))))))
  (tss_cons (ts_dput (hu_of hr) (tv 1) tx_str (tx_op ox_add (tx_dget (hu_of hr) (tv 1) tx_str) (tx_lst (ta_cons tx_str (ta_cons tx_str (ta_cons tx_str ta_nil))))))
  (tss_cons (ts_dput (hu_of hr) (tv 1) tx_str (tx_op ox_add (tv 0) (tx_lst (ta_cons tx_str (ta_cons tx_str (ta_cons tx_str (ta_cons tx_str (ta_cons tx_str (ta_cons (tx_tup (ta_cons tx_str ta_nil)) (ta_cons tx_str ta_nil))))))))))
  (tss_cons (ts_dput (hu_of hr) (tv 1) tx_str (tx_op ox_add (tv 0) (tx_lst (ta_cons tx_int (ta_cons (tx_tup (ta_cons tx_str ta_nil)) (ta_cons (tx_tup (ta_cons tx_str (ta_cons tx_str ta_nil))) (ta_cons (tx_tup (ta_cons tx_str (ta_cons tx_str ta_nil))) (ta_cons (tx_tup (ta_cons tx_str (ta_cons tx_str ta_nil))) (ta_cons (tx_tup (ta_cons tx_str (ta_cons tx_int ta_nil))) (ta_cons (tx_tup (ta_cons tx_str (ta_cons tx_str ta_nil))) ta_nil))))))))))
  (tss_cons (ts_dput (hu_of hr) (tv 1) tx_str (tx_op ox_add (tx_dget (hu_of hr) (tv 1) tx_str) (tx_lst (ta_cons (tx_lst (ta_cons tx_str (ta_cons tx_str ta_nil))) (ta_cons (tx_tup (ta_cons tx_str (ta_cons tx_int ta_nil))) (ta_cons (tx_tup (ta_cons tx_str (ta_cons tx_str ta_nil))) (ta_cons (tx_tup (ta_cons tx_str (ta_cons tx_str (ta_cons tx_int ta_nil)))) (ta_cons (tx_tup (ta_cons tx_str (ta_cons tx_int ta_nil))) ta_nil))))))))
  (tss_cons (ts_dput (hu_of hr) (tv 1) tx_str (tx_op ox_add (tv 0) (tx_lst (ta_cons (tx_tup (ta_cons (tx_un ux_neg tx_int) ta_nil)) (ta_cons (tx_tup (ta_cons tx_non ta_nil)) (ta_cons (tx_tup (ta_cons tx_bl ta_nil)) (ta_cons (tx_tup (ta_cons (tx_tup (ta_cons tx_str (ta_cons tx_int ta_nil))) ta_nil)) (ta_cons (tx_lst (ta_cons tx_int ta_nil)) (ta_cons (tx_tup (ta_cons tx_int (ta_cons tx_int ta_nil))) (ta_cons (tx_tup (ta_cons (tx_tup (ta_cons tx_int ta_nil)) ta_nil)) (ta_cons (tx_tup (ta_cons tx_str ta_nil)) (ta_cons tx_newK ta_nil))))))))))))
  (tss_cons (ts_dput (hu_of hr) (tv 1) tx_str (tx_op ox_add (tx_dget (hu_of hr) (tv 1) tx_str) (tx_lst (ta_cons (tx_tup (ta_cons tx_int (ta_cons tx_int (ta_cons tx_int (ta_cons tx_int (ta_cons tx_int ta_nil)))))) ta_nil))))
  (tss_cons (ts_dput (hu_of hr) (tv 1) tx_str (tx_op ox_add (tv 0) (tx_lst (ta_cons tx_int (ta_cons (tx_tup (ta_cons tx_str (ta_cons tx_int ta_nil))) ta_nil)))))
  (tss_one (ts_ret (tv 1))))))))))))))))
theorem bd_law_right {f : Addr} (Tx : Txt K W mg) (D_law_draw : Def P W K mg base "_law_draw" ["deck", "many"] 1 sp_law_draw) (D_law_pick : Def P W K mg base "_law_pick" ["deck", "some"] 2 sp_law_pick) {k0 kk : Nat} {spr : List T → Sto → Post → Prop} (D_law_right : Def P W K mg base "_law_right" ["deck", "kind", "blocks"] k0 spr) (hk0 : k0 ≤ kk) (hkk : 2 ≤ kk) (cdv : Value) (A : Around) (outer : List Env) (s : Shared) (H : Hp) (E : XK) (hr : Room kk (A.deeper (envOfC "_law_right" (defScope s_law_right) s.heap.objs.size f cdv))) :
    TSs (cxOf CX0 P W K mg base n_law_right "_law_right" (defScope s_law_right) f cdv A outer s H E).nox (defBody s_law_right) (w_law_right spr) := by
  unfold w_law_right
  exact (tss_cons (ts_set (i := 3) sc_law_right.nd rfl (Or.inl rfl) (tx_call D_law_pick (hr.mono (by omega)) rfl (ta_cons (tv 0) (ta_cons (tx_lst (ta_cons tx_str (ta_cons tx_str (ta_cons tx_str (ta_cons tx_str (ta_cons tx_str (ta_cons tx_str (ta_cons tx_str ta_nil)))))))) ta_nil))))
  (tss_cons (ts_par (i := 4) (j := 5) rfl sc_law_right.nd rfl rfl (by decide) rfl rfl (tx_call D_law_pick (hr.mono (by omega)) rfl (ta_cons (tv 0) (ta_cons (tx_lst (ta_cons tx_int (ta_cons tx_int (ta_cons tx_int (ta_cons tx_int (ta_cons tx_int ta_nil)))))) ta_nil))) (tx_call D_law_pick (hr.mono (by omega)) rfl (ta_cons (tv 0) (ta_cons (tx_lst (ta_cons tx_int (ta_cons tx_int (ta_cons tx_int (ta_cons tx_int ta_nil))))) ta_nil))))
  (tss_cons (ts_if (tb_cmp (ox_in (hu64 hr)) (tv 1) (tx_tup (ta_cons tx_str (ta_cons tx_str ta_nil))) (by rfl))
    (tss_one (ts_ret (tx_if (tb_w (tbw_and (tb_cmp (ox_eq (hu64 hr)) (tv 1) tx_str (nomark _)) (tbw_and1 (tb_cmp (ox_eq (hu64 hr)) (tx_call D_law_draw (hr.mono (by omega)) rfl (ta_cons (tv 0) (ta_cons tx_int ta_nil))) tx_int (nomark _))))) tx_non (tv 4))))
    tss_nil)
  (tss_cons (ts_if (tb_cmp (ox_in (hu64 hr)) (tv 1) (tx_tup (ta_cons tx_str (ta_cons tx_str ta_nil))) (by rfl))
    (tss_one (ts_ret (tx_if (tb_w (tbw_and (tb_cmp (ox_eq (hu64 hr)) (tv 1) tx_str (nomark _)) (tbw_and1 (tb_cmp (ox_eq (hu64 hr)) (tx_call D_law_draw (hr.mono (by omega)) rfl (ta_cons (tv 0) (ta_cons tx_int ta_nil))) tx_int (nomark _))))) tx_non (tx_call D_law_pick (hr.mono (by omega)) rfl (ta_cons (tv 0) (ta_cons (tx_lst (ta_cons (tv 5) (ta_cons (tx_tup (ta_cons tx_str (ta_cons (tv 4) ta_nil))) ta_nil))) ta_nil))))))
    tss_nil)
  (tss_cons (ts_if (tb_cmp (ox_in (hu64 hr)) (tv 1) (tx_tup (ta_cons tx_str (ta_cons tx_str ta_nil))) (by rfl))
    (tss_one (ts_ret (tx_if (tb_w (tbw_or (tb_cmp (ox_eq (hu64 hr)) (tv 1) tx_str (nomark _)) (tbw_or1 (tb_cmp ox_gt (tx_call D_law_draw (hr.mono (by omega)) rfl (ta_cons (tv 0) (ta_cons tx_int ta_nil))) tx_int (nomark _))))) (tv 3) tx_str)))
    tss_nil)
  (tss_cons (ts_if (tb_cmp (ox_eq (hu64 hr)) (tv 1) tx_str (nomark _))
    (tss_one (ts_ret (tx_call D_law_pick (hr.mono (by omega)) rfl (ta_cons (tv 0) (ta_cons (tx_lst (ta_cons tx_str (ta_cons tx_str (ta_cons tx_str (ta_cons tx_str (ta_cons tx_str (ta_cons tx_str (ta_cons tx_str (ta_cons tx_str ta_nil))))))))) ta_nil)))))
    tss_nil)
  (tss_cons (ts_if (tb_cmp (ox_eq (hu64 hr)) (tv 1) tx_str (nomark _))
    (tss_one (ts_ret (tx_call D_law_pick (hr.mono (by omega)) rfl (ta_cons (tv 0) (ta_cons (tx_lst (ta_cons (tv 5) (ta_cons (tx_tup (ta_cons tx_str (ta_cons (tv 3) ta_nil))) (ta_cons (tx_tup (ta_cons tx_str (ta_cons tx_str ta_nil))) (ta_cons (tv 5) ta_nil))))) ta_nil)))))
    tss_nil)
  (tss_cons (ts_if (tb_cmp (ox_in (hu64 hr)) (tv 1) (tx_tup (ta_cons tx_str (ta_cons tx_str ta_nil))) (by rfl))
    (tss_one (ts_ret (tx_callTy cx_tuple rfl Tx.z_tuple (by decide +kernel) (ta_cons (tx_lc (own := [("turn", 6)]) (tg := (.nm 6)) rfl sc_law_right.nd (tit_rng1 rfl Tx.z_range (tx_call D_law_draw (hr.mono (by omega)) rfl (ta_cons (tv 0) (ta_cons (tx_if (tb_cmp (ox_eq (hu64 hr)) (tv 1) tx_str (nomark _)) tx_int tx_int) ta_nil)))) (blkOk_by (own := [("turn", 6)]) (N := n_law_right) (sc := defScope s_law_right) (by decide +kernel)) (fun _ _ _ _ _ => (pgn (pg_name (i := 6) sc_law_right.nd rfl (Or.inl rfl)))) (fun _ _ _ _ _ => tbs_nil) (fun _ _ _ _ _ => (tx_call D_law_right (hr.mono hk0) rfl (ta_cons (tv 0) (ta_cons tx_str (ta_cons (tv 2) ta_nil)))))) ta_nil))))
    tss_nil)
  (tss_one (ts_ret (tx_if (tb_cmp (ox_eq (hu64 hr)) (tv 1) tx_str (nomark _)) (tx_call D_law_draw (hr.mono (by omega)) rfl (ta_cons (tv 0) (ta_cons (tv 2) ta_nil))) (tv 5))))))))))))
theorem bd_law_built {f : Addr} (Tx : Txt K W mg) (D_law_pick : Def P W K mg base "_law_pick" ["deck", "some"] 2 sp_law_pick) (D_law_right : Def P W K mg base "_law_right" ["deck", "kind", "blocks"] 4 sp_law_right) (cdv : Value) (A : Around) (outer : List Env) (s : Shared) (H : Hp) (E : XK) (hr : Room 4 (A.deeper (envOfC "_law_built" (defScope s_law_built) s.heap.objs.size f cdv))) :
    TSs (cxOf CX0 P W K mg base n_law_built "_law_built" (defScope s_law_built) f cdv A outer s H E).nox (defBody s_law_built) w_law_built := by
  unfold w_law_built
  exact (tss_cons (ts_set (i := 3) sc_law_built.nd rfl (Or.inl rfl) (tx_call D_law_pick (hr.mono (by decide)) rfl (ta_cons (tv 0) (ta_cons (tx_callB (cx_sortD rfl) rfl Tx.z_sorted (by decide +kernel) (ta_cons (tv 1) ta_nil)) ta_nil))))
  (tss_one (ts_ret (tx_op ox_add (tx_tup (ta_cons (tv 3) ta_nil)) (tx_callTy cx_tuple rfl Tx.z_tuple (by decide +kernel) (ta_cons (tx_lc (own := [("kind", 4)]) (tg := (.nm 4)) rfl sc_law_built.nd (tit_seq (tx_dget (hu_of hr) (tv 1) (tv 3))) (blkOk_by (own := [("kind", 4)]) (N := n_law_built) (sc := defScope s_law_built) (by decide +kernel)) (fun _ _ _ _ _ => (pgn (pg_name (i := 4) sc_law_built.nd rfl (Or.inl rfl)))) (fun _ _ _ _ _ => tbs_nil) (fun _ _ _ _ _ => (tx_call D_law_right (hr.mono (by decide)) rfl (ta_cons (tv 0) (ta_cons (tv 4) (ta_cons (tv 2) ta_nil)))))) ta_nil))))))
theorem bd_law_graph {f : Addr} (Tx : Txt K W mg) (D_law_built : Def P W K mg base "_law_built" ["deck", "forms", "blocks"] 5 sp_law_built) (D_law_draw : Def P W K mg base "_law_draw" ["deck", "many"] 1 sp_law_draw) (D_law_forms : Def P W K mg base "_law_forms" [] 1 sp_law_forms) (cdv : Value) (A : Around) (outer : List Env) (s : Shared) (H : Hp) (E : XK) (hr : Room 5 (A.deeper (envOfC "_law_graph" (defScope s_law_graph) s.heap.objs.size f cdv))) :
    TSs (cxOf CX0 P W K mg base n_law_graph "_law_graph" (defScope s_law_graph) f cdv A outer s H E).nox (defBody s_law_graph) w_law_graph := by
  unfold w_law_graph
  exact (tss_cons (ts_asg (tg := (.tp (.cons (.nm 1) (.cons (.nm 2) (.cons (.nm 3) .nil))))) (tx_tup (ta_cons (tx_op ox_add tx_int (tx_call D_law_draw (hr.mono (by decide)) rfl (ta_cons (tv 0) (ta_cons tx_int ta_nil)))) (ta_cons (tx_cell ta_nil) (ta_cons (tx_call0 D_law_forms (hr.mono (by decide)) rfl) ta_nil)))) (pgt rfl (pgsc (pgn (pg_name (i := 1) sc_law_graph.nd rfl (Or.inr rfl))) (pgsc (pgn (pg_name (i := 2) sc_law_graph.nd rfl (Or.inl rfl))) (pgsc (pgn (pg_name (i := 3) sc_law_graph.nd rfl (Or.inr rfl))) pgsn)))))
  (tss_cons (ts_set (i := 4) sc_law_graph.nd rfl (Or.inl rfl) (tx_disp (tps_cons tx_str tx_str (tps_cons tx_str tx_str (tps_cons tx_str tx_str (tps_cons tx_str tx_str tps_nil))))))
  (tss_cons (ts_for (tg := (.nm 5)) PassesOwn.never rfl (tit_rng1 rfl Tx.z_range (tv 1)) (pgn (pg_name (i := 5) sc_law_graph.nd rfl (Or.inl rfl)))
    (tss_cons (ts_setLc (i := 6) (own := [("turn", 7)]) (tg := (.nm 7)) rfl sc_law_graph.nd rfl rfl (sw_true rfl rfl rfl (by decide +kernel)) (tit_rng1 rfl Tx.z_range (tx_call D_law_draw (hr.mono (by decide)) rfl (ta_cons (tv 0) (ta_cons tx_int ta_nil)))) (blkOk_by (own := [("turn", 7)]) (N := n_law_graph) (sc := defScope s_law_graph) (by decide +kernel)) (fun _ _ _ _ _ => (pgn (pg_name (i := 7) sc_law_graph.nd rfl (Or.inl rfl)))) (fun _ _ _ _ _ => tbs_nil) (fun _ _ _ _ _ => (tx_call D_law_built (hr.mono (by decide)) rfl (ta_cons (tv 0) (ta_cons (tv 3) (ta_cons (tv 1) ta_nil))))))
  (tss_one (ts_expr (tx_meth PySem.F.plainAttrs_list PySem.F.slot_list_append PySem.F.type_list_append mx_append (tv 2) (ta_cons (tx_tup (ta_cons (tx_callTy cx_tuple rfl Tx.z_tuple (by decide +kernel) (ta_cons (tv 6) ta_nil)) (ta_cons (tx_call D_law_built (hr.mono (by decide)) rfl (ta_cons (tv 0) (ta_cons (tv 4) (ta_cons (tv 1) ta_nil)))) ta_nil))) ta_nil))))))
  (tss_one (ts_ret (tx_tup (ta_cons (tx_call D_law_draw (hr.mono (by decide)) rfl (ta_cons (tv 0) (ta_cons tx_int ta_nil))) (ta_cons (tx_callTy cx_tuple rfl Tx.z_tuple (by decide +kernel) (ta_cons (tv 2) ta_nil)) ta_nil))))))))
theorem bd_law_put {f : Addr} (Tx : Txt K W mg) (cdv : Value) (A : Around) (outer : List Env) (s : Shared) (H : Hp) (E : XK) (hr : Room 0 (A.deeper (envOfC "_law_put" (defScope s_law_put) s.heap.objs.size f cdv))) :
    TSs (cxOf CX0 P W K mg base n_law_put "_law_put" (defScope s_law_put) f cdv A outer s H E).nox (defBody s_law_put) w_law_put := by
  unfold w_law_put
  exact (tss_one (ts_ret (tx_tup (ta_cons (tx_ix (tv 0) tx_int) (ta_cons (tx_op ox_add (tx_op ox_add (tx_sl (tx_ix (tv 0) tx_int) to_none (to_some (tv 1))) (tx_tup (ta_cons (tv 2) ta_nil))) (tx_sl (tx_ix (tv 0) tx_int) (to_some (tx_op ox_add (tv 1) tx_int)) to_none)) ta_nil)))))
theorem bd_law_near_rows {f : Addr} (Tx : Txt K W mg) (D_law_pick : Def P W K mg base "_law_pick" ["deck", "some"] 2 sp_law_pick) (D_law_right : Def P W K mg base "_law_right" ["deck", "kind", "blocks"] 4 sp_law_right) (D_law_shuffled : Def P W K mg base "_law_shuffled" ["deck", "some"] 2 sp_law_shuffled) (D_law_wrongs : Def P W K mg base "_law_wrongs" [] 1 sp_law_wrongs) (cdv : Value) (A : Around) (outer : List Env) (s : Shared) (H : Hp) (E : XK) (hr : Room 4 (A.deeper (envOfC "_law_near_rows" (defScope s_law_near_rows) s.heap.objs.size f cdv))) :
    TSs (cxOf CX0 P W K mg base n_law_near_rows "_law_near_rows" (defScope s_law_near_rows) f cdv A outer s H E).nox (defBody s_law_near_rows) w_law_near_rows := by
  unfold w_law_near_rows
  exact (tss_cons (ts_set (i := 4) sc_law_near_rows.nd rfl (Or.inl rfl) (tx_cell (ta_cons (tx_sl (tv 2) to_none (to_some (tx_un ux_neg tx_int))) (ta_cons (tx_op ox_add (tv 2) (tx_tup (ta_cons tx_int ta_nil))) (ta_cons (tx_callTy cx_list rfl Tx.z_list (by decide +kernel) (ta_cons (tv 2) ta_nil)) (ta_cons (tx_sl (tv 2) (to_some tx_int) to_none) (ta_cons (tx_op ox_add (tx_tup (ta_cons tx_str ta_nil)) (tx_sl (tv 2) (to_some tx_int) to_none)) (ta_cons (tx_tup (ta_cons (tv 2) ta_nil)) (ta_cons tx_non (ta_cons (tx_tup ta_nil) (ta_cons (tx_sl (tv 2) to_none (to_some tx_int)) (ta_cons (tx_ix (tv 2) tx_int) ta_nil))))))))))))
  (tss_cons (ts_expr (tx_meth PySem.F.plainAttrs_list PySem.F.slot_list_append PySem.F.type_list_append mx_append (tv 4) (ta_cons (tx_op ox_add (tx_tup (ta_cons (tx_call D_law_pick (hr.mono (by decide)) rfl (ta_cons (tv 0) (ta_cons (tx_callB (cx_sortD rfl) rfl Tx.z_sorted (by decide +kernel) (ta_cons (tv 1) ta_nil)) ta_nil))) ta_nil)) (tx_sl (tv 2) (to_some tx_int) to_none)) ta_nil)))
  (tss_cons (ts_set (i := 5) sc_law_near_rows.nd rfl (Or.inl rfl) (tx_call0 D_law_wrongs (hr.mono (by decide)) rfl))
  (tss_cons (ts_dput (hu_of hr) (tv 5) tx_str (tx_lst (ta_cons (tx_un ux_neg tx_int) (ta_cons (tv 3) (ta_cons tx_bl (ta_cons tx_non (ta_cons tx_str (ta_cons (tx_tup (ta_cons tx_int ta_nil)) (ta_cons (tx_op ox_pow tx_int tx_int) (ta_cons tx_bl ta_nil))))))))))
  (tss_cons (ts_for (tg := (.tp (.cons (.nm 6) (.cons (.nm 7) .nil)))) PassesOwn.never rfl (tit_enum rfl Tx.z_enumerate (tx_dget (hu_of hr) (tv 1) (tx_ix (tv 2) tx_int))) (pgt rfl (pgsc (pgn (pg_name (i := 6) sc_law_near_rows.nd rfl (Or.inl rfl))) (pgsc (pgn (pg_name (i := 7) sc_law_near_rows.nd rfl (Or.inl rfl))) pgsn)))
    (tss_cons (ts_for (tg := (.nm 8)) PassesOwn.never rfl (tit_seq (tx_sl (tx_call D_law_shuffled (hr.mono (by decide)) rfl (ta_cons (tv 0) (ta_cons (tx_dget (hu_of hr) (tv 5) (tv 7)) ta_nil))) to_none (to_some tx_int))) (pgn (pg_name (i := 8) sc_law_near_rows.nd rfl (Or.inl rfl)))
    (tss_one (ts_expr (tx_meth PySem.F.plainAttrs_list PySem.F.slot_list_append PySem.F.type_list_append mx_append (tv 4) (ta_cons (tx_op ox_add (tx_op ox_add (tx_sl (tv 2) to_none (to_some (tx_op ox_add (tv 6) tx_int))) (tx_tup (ta_cons (tv 8) ta_nil))) (tx_sl (tv 2) (to_some (tx_op ox_add (tv 6) tx_int)) to_none)) ta_nil)))))
  (tss_one (ts_expr (tx_meth PySem.F.plainAttrs_list PySem.F.slot_list_append PySem.F.type_list_append mx_append (tv 4) (ta_cons (tx_op ox_add (tx_op ox_add (tx_sl (tv 2) to_none (to_some (tx_op ox_add (tv 6) tx_int))) (tx_tup (ta_cons (tx_call D_law_right (hr.mono (by decide)) rfl (ta_cons (tv 0) (ta_cons (tv 7) (ta_cons (tv 3) ta_nil)))) ta_nil))) (tx_sl (tv 2) (to_some (tx_op ox_add (tv 6) tx_int)) to_none)) ta_nil))))))
  (tss_one (ts_ret (tv 4))))))))
theorem bd_law_near_graphs {f : Addr} (Tx : Txt K W mg) (D_law_draw : Def P W K mg base "_law_draw" ["deck", "many"] 1 sp_law_draw) (D_law_put : Def P W K mg base "_law_put" ["graph", "at", "block"] 1 sp_law_put) (cdv : Value) (A : Around) (outer : List Env) (s : Shared) (H : Hp) (E : XK) (hr : Room 1 (A.deeper (envOfC "_law_near_graphs" (defScope s_law_near_graphs) s.heap.objs.size f cdv))) :
    TSs (cxOf CX0 P W K mg base n_law_near_graphs "_law_near_graphs" (defScope s_law_near_graphs) f cdv A outer s H E).nox (defBody s_law_near_graphs) w_law_near_graphs := by
  unfold w_law_near_graphs
  exact (tss_cons (ts_asg (tg := (.tp (.cons (.nm 2) (.cons (.nm 3) .nil)))) (tv 1) (pgt rfl (pgsc (pgn (pg_name (i := 2) sc_law_near_graphs.nd rfl (Or.inl rfl))) (pgsc (pgn (pg_name (i := 3) sc_law_near_graphs.nd rfl (Or.inr rfl))) pgsn))))
  (tss_cons (ts_set (i := 4) sc_law_near_graphs.nd rfl (Or.inl rfl) (tx_call D_law_draw (hr.mono (by decide)) rfl (ta_cons (tv 0) (ta_cons (tx_callB cx_len rfl Tx.z_len (by decide +kernel) (ta_cons (tv 3) ta_nil)) ta_nil))))
  (tss_cons (ts_asg (tg := (.tp (.cons (.nm 5) (.cons (.nm 6) .nil)))) (tx_ix (tv 3) (tv 4)) (pgt rfl (pgsc (pgn (pg_name (i := 5) sc_law_near_graphs.nd rfl (Or.inl rfl))) (pgsc (pgn (pg_name (i := 6) sc_law_near_graphs.nd rfl (Or.inl rfl))) pgsn))))
  (tss_cons (ts_set (i := 7) sc_law_near_graphs.nd rfl (Or.inl rfl) (tx_lst (ta_cons (tx_tup (ta_cons (tv 2) (ta_cons (tx_callTy cx_list rfl Tx.z_list (by decide +kernel) (ta_cons (tv 3) ta_nil)) ta_nil))) (ta_cons (tx_tup (ta_cons (tv 2) (ta_cons (tx_tup ta_nil) ta_nil))) (ta_cons (tx_tup (ta_cons (tv 2) ta_nil)) (ta_cons (tx_lst (ta_cons (tv 2) (ta_cons (tv 3) ta_nil))) (ta_cons (tx_tup (ta_cons (tv 2) (ta_cons (tv 3) (ta_cons (tx_tup ta_nil) ta_nil)))) (ta_cons (tv 3) (ta_cons tx_non (ta_cons (tx_tup ta_nil) (ta_cons tx_str ta_nil)))))))))))
  (tss_cons (ts_set (i := 7) sc_law_near_graphs.nd rfl (Or.inl rfl) (tx_op ox_addC (tx_op ox_add (tv 7) (tx_lc (own := [("it", 9)]) (tg := (.nm 9)) rfl sc_law_near_graphs.nd (tit_seq (tx_tup (ta_cons (tx_un ux_neg tx_int) (ta_cons tx_bl (ta_cons tx_non (ta_cons tx_str (ta_cons (tx_tup (ta_cons tx_int ta_nil)) (ta_cons tx_bl (ta_cons (tx_lst ta_nil) (ta_cons tx_int (ta_cons (tx_op ox_pow tx_int tx_int) ta_nil))))))))))) (blkOk_by (own := [("it", 9)]) (N := n_law_near_graphs) (sc := defScope s_law_near_graphs) (by decide +kernel)) (fun _ _ _ _ _ => (pgn (pg_name (i := 9) sc_law_near_graphs.nd rfl (Or.inl rfl)))) (fun _ _ _ _ _ => tbs_nil) (fun _ _ _ _ _ => (tx_tup (ta_cons (tv 9) (ta_cons (tv 3) ta_nil)))))) (tx_lst (ta_cons (tx_tup (ta_cons tx_int (ta_cons (tv 3) ta_nil))) (ta_cons (tx_tup (ta_cons tx_int (ta_cons (tv 3) ta_nil))) (ta_cons tx_newK (ta_cons tx_int ta_nil)))))))
  (tss_cons (ts_for (tg := (.nm 8)) PassesOwn.never rfl (tit_seq (tx_tup (ta_cons (tx_tup (ta_cons (tv 5) ta_nil)) (ta_cons (tx_tup (ta_cons (tv 5) (ta_cons (tv 6) (ta_cons (tx_tup ta_nil) ta_nil)))) (ta_cons (tx_lst (ta_cons (tv 5) (ta_cons (tv 6) ta_nil))) (ta_cons (tx_tup (ta_cons (tx_callTy cx_list rfl Tx.z_list (by decide +kernel) (ta_cons (tv 5) ta_nil)) (ta_cons (tv 6) ta_nil))) (ta_cons (tx_tup (ta_cons (tv 5) (ta_cons tx_non ta_nil))) (ta_cons (tx_tup (ta_cons (tv 6) (ta_cons (tv 5) ta_nil))) (ta_cons (tv 5) (ta_cons (tv 6) (ta_cons (tx_tup (ta_cons (tv 5) (ta_cons (tv 5) ta_nil))) (ta_cons tx_non ta_nil)))))))))))) (pgn (pg_name (i := 8) sc_law_near_graphs.nd rfl (Or.inl rfl)))
    (tss_one (ts_expr (tx_meth PySem.F.plainAttrs_list PySem.F.slot_list_append PySem.F.type_list_append mx_append (tv 7) (ta_cons (tx_call D_law_put (hr.mono (by decide)) rfl (ta_cons (tv 1) (ta_cons (tv 4) (ta_cons (tv 8) ta_nil)))) ta_nil)))))
  (tss_one (ts_ret (tx_op ox_add (tv 7) (tx_lst (ta_cons (tx_tup (ta_cons (tv 2) (ta_cons (tx_sl (tv 3) to_none (to_some (tx_un ux_neg tx_int))) ta_nil))) (ta_cons (tx_tup (ta_cons (tv 2) (ta_cons (tx_op ox_add (tv 3) (tx_sl (tv 3) to_none (to_some tx_int))) ta_nil))) (ta_cons (tx_tup (ta_cons (tv 2) (ta_cons (tx_revS (tv 3)) ta_nil))) ta_nil)))))))))))))
theorem bd_law_great {f : Addr} (Tx : Txt K W mg) (D_law_draw : Def P W K mg base "_law_draw" ["deck", "many"] 1 sp_law_draw) (cdv : Value) (A : Around) (outer : List Env) (s : Shared) (H : Hp) (E : XK) (hr : Room 1 (A.deeper (envOfC "_law_great" (defScope s_law_great) s.heap.objs.size f cdv))) :
    TSs (cxOf CX0 P W K mg base n_law_great "_law_great" (defScope s_law_great) f cdv A outer s H E).nox (defBody s_law_great) w_law_great := by
  unfold w_law_great
  exact (tss_cons (ts_par (i := 1) (j := 2) rfl sc_law_great.nd rfl rfl (by decide) rfl rfl (tx_tup (ta_cons tx_str (ta_cons (tx_call D_law_draw (hr.mono (by decide)) rfl (ta_cons (tv 0) (ta_cons tx_int ta_nil))) ta_nil))) (tx_op ox_add tx_int (tx_call D_law_draw (hr.mono (by decide)) rfl (ta_cons (tv 0) (ta_cons tx_int ta_nil)))))
  (tss_cons (ts_if (tb_cmp (ox_eq (hu64 hr)) (tx_call D_law_draw (hr.mono (by decide)) rfl (ta_cons (tv 0) (ta_cons tx_int ta_nil))) tx_int (nomark _))
    (tss_one (ts_ret (tx_tup (ta_cons tx_int (ta_cons (tx_tup (ta_cons (tx_tup (ta_cons (tx_op ox_mulT (tx_tup (ta_cons (tv 1) ta_nil)) (tx_op ox_sub (tv 2) tx_int)) (ta_cons (tx_tup (ta_cons tx_str (ta_cons tx_non ta_nil))) ta_nil))) ta_nil)) ta_nil)))))
    tss_nil)
  (tss_one (ts_ret (tx_tup (ta_cons tx_int (ta_cons (tx_op ox_mulT (tx_tup (ta_cons (tx_tup (ta_cons (tx_tup ta_nil) (ta_cons (tx_tup (ta_cons tx_str (ta_cons (tx_op ox_sub (tv 2) tx_int) ta_nil))) ta_nil))) ta_nil)) (tv 2)) ta_nil)))))))
theorem bd_law {f : Addr} (Tx : Txt K W mg) (D_law_deck : Def P W K mg base "_law_deck" ["script"] 1 sp_law_deck) (D_law_draw : Def P W K mg base "_law_draw" ["deck", "many"] 1 sp_law_draw) (D_law_forms : Def P W K mg base "_law_forms" [] 1 sp_law_forms) (D_law_graph : Def P W K mg base "_law_graph" ["deck"] 6 sp_law_graph) (D_law_great : Def P W K mg base "_law_great" ["deck"] 2 sp_law_great) (D_law_is_graph : Def P W K mg base "_law_is_graph" ["thing"] 5 sp_law_is_graph) (D_law_near_graphs : Def P W K mg base "_law_near_graphs" ["deck", "graph"] 2 sp_law_near_graphs) (D_law_near_rows : Def P W K mg base "_law_near_rows" ["deck", "forms", "row", "blocks"] 5 sp_law_near_rows) (D_law_pick : Def P W K mg base "_law_pick" ["deck", "some"] 2 sp_law_pick) (D_law_put : Def P W K mg base "_law_put" ["graph", "at", "block"] 1 sp_law_put) (D_law_right : Def P W K mg base "_law_right" ["deck", "kind", "blocks"] 4 sp_law_right) (D_law_shuffled : Def P W K mg base "_law_shuffled" ["deck", "some"] 2 sp_law_shuffled) (D_is_graph : Def P W K mg base "is_graph" ["thing"] 8 sp_is_graph) (K_is_graph : DefK P W K mg base "is_graph" ["thing"] ["thing"] [0] 8 sp_is_graph) (cdv : Value) (A : Around) (outer : List Env) (s : Shared) (H : Hp) (E : XK) (hr : Room 8 (A.deeper (envOfC "law" (defScope s_law) s.heap.objs.size f cdv))) :
    TSs (cxOf CX0 P W K mg base n_law "law" (defScope s_law) f cdv A outer s H E).nox (defBody s_law) w_law := by
  unfold w_law
  exact (tss_cons (ts_set (i := 1) sc_law.nd rfl (Or.inr rfl) (tx_call D_law_deck (hr.mono (by decide)) rfl (ta_cons (tv 0) ta_nil)))
  (tss_cons (ts_par (i := 2) (j := 3) rfl sc_law.nd rfl rfl (by decide) rfl rfl (tx_call D_law_graph (hr.mono (by decide)) rfl (ta_cons (tv 1) ta_nil)) (tx_call0 D_law_forms (hr.mono (by decide)) rfl))
  (tss_cons (ts_set (i := 4) sc_law.nd rfl (Or.inl rfl) (tx_disp (tps_cons tx_str tx_str (tps_cons tx_str tx_str (tps_cons tx_str tx_str (tps_cons tx_str tx_str tps_nil))))))
  (tss_cons (ts_asg (tg := (.tp (.cons (.nm 5) (.cons (.nm 6) .nil)))) (tx_tup (ta_cons (tx_cell (ta_cons (tv 2) (ta_cons (tx_call D_law_graph (hr.mono (by decide)) rfl (ta_cons (tv 1) ta_nil)) ta_nil))) (ta_cons (tx_callB cx_len rfl Tx.z_len (by decide +kernel) (ta_cons (tx_ix (tv 2) tx_int) ta_nil)) ta_nil))) (pgt rfl (pgsc (pgn (pg_name (i := 5) sc_law.nd rfl (Or.inl rfl))) (pgsc (pgn (pg_name (i := 6) sc_law.nd rfl (Or.inr rfl))) pgsn))))
  (tss_cons (ts_for (tg := (.nm 7)) PassesOwn.never rfl (tit_rng1 rfl Tx.z_range tx_int) (pgn (pg_name (i := 7) sc_law.nd rfl (Or.inl rfl)))
    (tss_cons (ts_for (tg := (.nm 8)) PassesOwn.never rfl (tit_seq (tx_sl (tx_call D_law_shuffled (hr.mono (by decide)) rfl (ta_cons (tv 1) (ta_cons (tx_callB (cx_sortD rfl) rfl Tx.z_sorted (by decide +kernel) (ta_cons (tv 3) ta_nil)) ta_nil))) to_none (to_some tx_int))) (pgn (pg_name (i := 8) sc_law.nd rfl (Or.inl rfl)))
    (tss_cons (ts_set (i := 9) sc_law.nd rfl (Or.inl rfl) (tx_op ox_add (tx_tup (ta_cons (tv 8) ta_nil)) (tx_callTy cx_tuple rfl Tx.z_tuple (by decide +kernel) (ta_cons (tx_lc (own := [("kind", 17)]) (tg := (.nm 17)) rfl sc_law.nd (tit_seq (tx_dget (hu_of hr) (tv 3) (tv 8))) (blkOk_by (own := [("kind", 17)]) (N := n_law) (sc := defScope s_law) (by decide +kernel)) (fun _ _ _ _ _ => (pgn (pg_name (i := 17) sc_law.nd rfl (Or.inl rfl)))) (fun _ _ _ _ _ => tbs_nil) (fun _ _ _ _ _ => (tx_call D_law_right (hr.mono (by decide)) rfl (ta_cons (tv 1) (ta_cons (tv 17) (ta_cons (tv 6) ta_nil)))))) ta_nil))))
  (tss_cons (ts_set (i := 10) sc_law.nd rfl (Or.inl rfl) (tx_call D_law_draw (hr.mono (by decide)) rfl (ta_cons (tv 1) (ta_cons (tv 6) ta_nil))))
  (tss_cons (ts_asg (tg := (.tp (.cons (.nm 11) (.cons (.nm 12) .nil)))) (tx_ix (tx_ix (tv 2) tx_int) (tv 10)) (pgt rfl (pgsc (pgn (pg_name (i := 11) sc_law.nd rfl (Or.inl rfl))) (pgsc (pgn (pg_name (i := 12) sc_law.nd rfl (Or.inl rfl))) pgsn))))
  (tss_one (ts_for (tg := (.nm 13)) PassesOwn.never rfl (tit_seq (tx_op ox_add (tx_lst (ta_cons (tv 9) ta_nil)) (tx_sl (tx_call D_law_shuffled (hr.mono (by decide)) rfl (ta_cons (tv 1) (ta_cons (tx_call D_law_near_rows (hr.mono (by decide)) rfl (ta_cons (tv 1) (ta_cons (tv 3) (ta_cons (tv 9) (ta_cons (tv 6) ta_nil))))) ta_nil))) to_none (to_some tx_int)))) (pgn (pg_name (i := 13) sc_law.nd rfl (Or.inl rfl)))
    (tss_cons (ts_set (i := 14) sc_law.nd rfl (Or.inl rfl) (tx_call D_law_draw (hr.mono (by decide)) rfl (ta_cons (tv 1) (ta_cons (tx_op ox_add (tx_callB cx_len rfl Tx.z_len (by decide +kernel) (ta_cons (tv 11) ta_nil)) tx_int) ta_nil))))
  (tss_one (ts_expr (tx_meth PySem.F.plainAttrs_list PySem.F.slot_list_append PySem.F.type_list_append mx_append (tv 5) (ta_cons (tx_call D_law_put (hr.mono (by decide)) rfl (ta_cons (tv 2) (ta_cons (tv 10) (ta_cons (tx_tup (ta_cons (tx_op ox_add (tx_op ox_add (tx_sl (tv 11) to_none (to_some (tv 14))) (tx_tup (ta_cons (tv 13) ta_nil))) (tx_sl (tv 11) (to_some (tv 14)) to_none)) (ta_cons (tv 12) ta_nil))) ta_nil)))) ta_nil)))))))))))
  (tss_cons (ts_set (i := 8) sc_law.nd rfl (Or.inl rfl) (tx_call D_law_pick (hr.mono (by decide)) rfl (ta_cons (tv 1) (ta_cons (tx_callB (cx_sortD rfl) rfl Tx.z_sorted (by decide +kernel) (ta_cons (tv 4) ta_nil)) ta_nil))))
  (tss_cons (ts_set (i := 9) sc_law.nd rfl (Or.inl rfl) (tx_op ox_add (tx_tup (ta_cons (tv 8) ta_nil)) (tx_callTy cx_tuple rfl Tx.z_tuple (by decide +kernel) (ta_cons (tx_lc (own := [("kind", 17)]) (tg := (.nm 17)) rfl sc_law.nd (tit_seq (tx_dget (hu_of hr) (tv 4) (tv 8))) (blkOk_by (own := [("kind", 17)]) (N := n_law) (sc := defScope s_law) (by decide +kernel)) (fun _ _ _ _ _ => (pgn (pg_name (i := 17) sc_law.nd rfl (Or.inl rfl)))) (fun _ _ _ _ _ => tbs_nil) (fun _ _ _ _ _ => (tx_call D_law_right (hr.mono (by decide)) rfl (ta_cons (tv 1) (ta_cons (tv 17) (ta_cons (tv 6) ta_nil)))))) ta_nil))))
  (tss_cons (ts_set (i := 10) sc_law.nd rfl (Or.inl rfl) (tx_call D_law_draw (hr.mono (by decide)) rfl (ta_cons (tv 1) (ta_cons (tv 6) ta_nil))))
  (tss_one (ts_for (tg := (.nm 13)) PassesOwn.never rfl (tit_seq (tx_op ox_add (tx_lst (ta_cons (tv 9) ta_nil)) (tx_sl (tx_call D_law_shuffled (hr.mono (by decide)) rfl (ta_cons (tv 1) (ta_cons (tx_call D_law_near_rows (hr.mono (by decide)) rfl (ta_cons (tv 1) (ta_cons (tv 4) (ta_cons (tv 9) (ta_cons (tv 6) ta_nil))))) ta_nil))) to_none (to_some tx_int)))) (pgn (pg_name (i := 13) sc_law.nd rfl (Or.inl rfl)))
    (tss_one (ts_expr (tx_meth PySem.F.plainAttrs_list PySem.F.slot_list_append PySem.F.type_list_append mx_append (tv 5) (ta_cons (tx_call D_law_put (hr.mono (by decide)) rfl (ta_cons (tv 2) (ta_cons (tv 10) (ta_cons (tx_tup (ta_cons (tx_ix (tx_ix (tx_ix (tv 2) tx_int) (tv 10)) tx_int) (ta_cons (tv 13) ta_nil))) ta_nil)))) ta_nil)))))))))))
  (tss_cons (ts_set (i := 5) sc_law.nd rfl (Or.inl rfl) (tx_op ox_addC (tv 5) (tx_call D_law_near_graphs (hr.mono (by decide)) rfl (ta_cons (tv 1) (ta_cons (tv 2) ta_nil)))))
  (tss_cons (ts_if (tb_cmp (ox_eq (hu64 hr)) (tx_call D_law_draw (hr.mono (by decide)) rfl (ta_cons (tv 1) (ta_cons tx_int ta_nil))) tx_int (nomark _))
    (tss_one (ts_expr (tx_meth PySem.F.plainAttrs_list PySem.F.slot_list_append PySem.F.type_list_append mx_append (tv 5) (ta_cons (tx_call D_law_great (hr.mono (by decide)) rfl (ta_cons (tv 1) ta_nil)) ta_nil))))
    tss_nil)
  (tss_cons (ts_for (tg := (.tp (.cons (.nm 10) (.cons (.nm 15) .nil)))) PassesOwn.never rfl (tit_enum rfl Tx.z_enumerate (tx_frz (tv 5))) (pgt rfl (pgsc (pgn (pg_name (i := 10) sc_law.nd rfl (Or.inl rfl))) (pgsc (pgn (pg_name (i := 15) sc_law.nd rfl (Or.inl rfl))) pgsn)))
    (tss_cons (ts_set (i := 16) sc_law.nd rfl (Or.inl rfl) (tx_if (tb_cmp (ox_eq (hu64 hr)) (tx_op ox_mod (tx_callTy cx_int rfl Tx.z_int (by decide +kernel) (ta_cons (tv 10) ta_nil)) tx_int) tx_int (nomark _)) (tx_call D_is_graph (hr.mono (by decide)) rfl (ta_cons (tv 15) ta_nil)) (tx_callKw K_is_graph (hr.mono (by decide)) rfl (tk_cons (tv 15) tk_nil))))
  (tss_one (ts_if (tb_w (tbw_or (tb_w (tbw_and (tb_cmp ox_isnot (tv 16) tx_bl (nomark _)) (tbw_and1 (tb_cmp ox_isnot (tv 16) tx_bl (nomark _))))) (tbw_or1 (tb_cmp (ox_ne (hu64 hr)) (tv 16) (tx_call D_law_is_graph (hr.mono (by decide)) rfl (ta_cons (tv 15) ta_nil)) (nomark _)))))
    (tss_one (ts_ret tx_bl))
    tss_nil))))
  (tss_one (ts_ret tx_bl))))))))))

end
end TL.K

set_option Elab.async false
set_option linter.all false
set_option maxRecDepth 100000
set_option maxHeartbeats 4000000
namespace TL.K
open PySem L2 PyProof.Rows
theorem rng_le {i n m : Int} {S : Sto} {R : Post} (hm : m + 1 = n) (q : R (.bl (decide (0 ≤ i) && decide (i < n))) S) : i < 0 ∧ R (.bl false) S ∨ 0 ≤ i ∧ R (.bl (decide (i ≤ m))) S := by
  by_cases h : i < 0
  · refine .inl ⟨h, ?_⟩
    rw [decide_eq_false (show ¬ 0 ≤ i by omega)] at q
    exact q
  · refine .inr ⟨by omega, ?_⟩
    rw [decide_eq_true (show 0 ≤ i by omega), Bool.true_and] at q
    rw [show decide (i ≤ m) = decide (i < n) from decide_eq_decide.mpr ⟨fun _ => by omega, fun _ => by omega⟩]
    exact q
theorem rng_lt {i n : Int} {S : Sto} {R : Post} (q : R (.bl (decide (0 ≤ i) && decide (i < n))) S) : i < 0 ∧ R (.bl false) S ∨ 0 ≤ i ∧ R (.bl (decide (i < n))) S := by
  by_cases h : i < 0
  · refine .inl ⟨h, ?_⟩
    rw [decide_eq_false (show ¬ 0 ≤ i by omega)] at q
    exact q
  · refine .inr ⟨by omega, ?_⟩
    rw [decide_eq_true (show 0 ≤ i by omega), Bool.true_and] at q
    exact q
theorem ok_is_integer : ∀ ts S R, sp_is_integer ts S R → w_is_integer { nx := fun _ S' => R .non S', rt := R } (startT n_is_integer ts) S := by
  rintro ts S R ⟨t, rfl, g, q⟩
  have h1 := gt_isa g
  have h2 := gt_ty g
  simp only [w_is_integer, n_is_integer, startT, List.map_cons, List.map_nil, List.cons_append, List.nil_append]
  cases t <;> simp_all [sRet, sIf, sSeq, sSet, sNext, sDrop, sRetN, wVar, wC, wOp, wUn, wCall, wCons, wNil, wTup, wLst, wTst, wTru, wAnd, wOr, wNot, wAndV, wOrV, wNotV, wIfE, wChain, wIsi, truT_bl, truT_non, truT_int, truT_lst, truT_tup, oLt_ii, oLe_ii, oGt_ii, oGe_ii, oSub_ii, oAdd_ii, oEq_ss, oEq_ii, oEq_bb, oNe_ss, oNe_ii, oNe_bb, oEq_l0, oNe_l0, oEq_t0, oNe_t0]
theorem ok_is_word : ∀ ts S R, sp_is_word ts S R → w_is_word { nx := fun _ S' => R .non S', rt := R } (startT n_is_word ts) S := by
  rintro ts S R ⟨t, rfl, g, q⟩
  simp only [w_is_word, n_is_word, startT, List.map_cons, List.map_nil, List.cons_append, List.nil_append]
  simp [sp_is_integer, spB1, g, sRet, sIf, sSeq, sSet, sNext, sDrop, sRetN, wVar, wC, wOp, wUn, wCall, wCons, wNil, wTup, wLst, wTst, wTru, wAnd, wOr, wNot, wAndV, wOrV, wNotV, wIfE, wChain, wIsi, truT_bl, truT_non, truT_int, truT_lst, truT_tup, oLt_ii, oLe_ii, oGt_ii, oGe_ii, oSub_ii, oAdd_ii, oEq_ss, oEq_ii, oEq_bb, oNe_ss, oNe_ii, oNe_bb, oEq_l0, oNe_l0, oEq_t0, oNe_t0]
  cases t <;> simp_all [wordT, sRet, sIf, sSeq, sSet, sNext, sDrop, sRetN, wVar, wC, wOp, wUn, wCall, wCons, wNil, wTup, wLst, wTst, wTru, wAnd, wOr, wNot, wAndV, wOrV, wNotV, wIfE, wChain, wIsi, truT_bl, truT_non, truT_int, truT_lst, truT_tup, oLt_ii, oLe_ii, oGt_ii, oGe_ii, oSub_ii, oAdd_ii, oEq_ss, oEq_ii, oEq_bb, oNe_ss, oNe_ii, oNe_bb, oEq_l0, oNe_l0, oEq_t0, oNe_t0]
  exact rng_le (by omega) q
theorem ok_is_variable : ∀ ts S R, sp_is_variable ts S R → w_is_variable { nx := fun _ S' => R .non S', rt := R } (startT n_is_variable ts) S := by
  rintro ts S R ⟨t, rfl, g, q⟩
  simp only [w_is_variable, n_is_variable, startT, List.map_cons, List.map_nil, List.cons_append, List.nil_append]
  simp [sp_is_integer, spB1, g, sRet, sIf, sSeq, sSet, sNext, sDrop, sRetN, wVar, wC, wOp, wUn, wCall, wCons, wNil, wTup, wLst, wTst, wTru, wAnd, wOr, wNot, wAndV, wOrV, wNotV, wIfE, wChain, wIsi, truT_bl, truT_non, truT_int, truT_lst, truT_tup, oLt_ii, oLe_ii, oGt_ii, oGe_ii, oSub_ii, oAdd_ii, oEq_ss, oEq_ii, oEq_bb, oNe_ss, oNe_ii, oNe_bb, oEq_l0, oNe_l0, oEq_t0, oNe_t0]
  cases t <;> simp_all [wordT, sRet, sIf, sSeq, sSet, sNext, sDrop, sRetN, wVar, wC, wOp, wUn, wCall, wCons, wNil, wTup, wLst, wTst, wTru, wAnd, wOr, wNot, wAndV, wOrV, wNotV, wIfE, wChain, wIsi, truT_bl, truT_non, truT_int, truT_lst, truT_tup, oLt_ii, oLe_ii, oGt_ii, oGe_ii, oSub_ii, oAdd_ii, oEq_ss, oEq_ii, oEq_bb, oNe_ss, oNe_ii, oNe_bb, oEq_l0, oNe_l0, oEq_t0, oNe_t0]
  exact rng_lt q
theorem ok_is_block_number : ∀ ts S R, sp_is_block_number ts S R → w_is_block_number { nx := fun _ S' => R .non S', rt := R } (startT n_is_block_number ts) S := by
  rintro ts S R ⟨t, n, rfl, g, q⟩
  simp only [w_is_block_number, n_is_block_number, startT, List.map_cons, List.map_nil, List.cons_append, List.nil_append]
  simp [sp_is_integer, spB1, g, sRet, sIf, sSeq, sSet, sNext, sDrop, sRetN, wVar, wC, wOp, wUn, wCall, wCons, wNil, wTup, wLst, wTst, wTru, wAnd, wOr, wNot, wAndV, wOrV, wNotV, wIfE, wChain, wIsi, truT_bl, truT_non, truT_int, truT_lst, truT_tup, oLt_ii, oLe_ii, oGt_ii, oGe_ii, oSub_ii, oAdd_ii, oEq_ss, oEq_ii, oEq_bb, oNe_ss, oNe_ii, oNe_bb, oEq_l0, oNe_l0, oEq_t0, oNe_t0]
  cases t <;> simp_all [wordT, sRet, sIf, sSeq, sSet, sNext, sDrop, sRetN, wVar, wC, wOp, wUn, wCall, wCons, wNil, wTup, wLst, wTst, wTru, wAnd, wOr, wNot, wAndV, wOrV, wNotV, wIfE, wChain, wIsi, truT_bl, truT_non, truT_int, truT_lst, truT_tup, oLt_ii, oLe_ii, oGt_ii, oGe_ii, oSub_ii, oAdd_ii, oEq_ss, oEq_ii, oEq_bb, oNe_ss, oNe_ii, oNe_bb, oEq_l0, oNe_l0, oEq_t0, oNe_t0]
  exact rng_lt q
theorem ok_law_is_whole : ∀ ts S R, sp_law_is_whole ts S R → w_law_is_whole { nx := fun _ S' => R .non S', rt := R } (startT n_law_is_whole ts) S := by
  rintro ts S R ⟨t, n, rfl, g, q⟩
  have h1 := gt_isa g
  have h2 := gt_ty g
  simp only [w_law_is_whole, n_law_is_whole, startT, List.map_cons, List.map_nil, List.cons_append, List.nil_append]
  cases t <;> simp_all [wordT, sRet, sIf, sSeq, sSet, sNext, sDrop, sRetN, wVar, wC, wOp, wUn, wCall, wCons, wNil, wTup, wLst, wTst, wTru, wAnd, wOr, wNot, wAndV, wOrV, wNotV, wIfE, wChain, wIsi, truT_bl, truT_non, truT_int, truT_lst, truT_tup, oLt_ii, oLe_ii, oGt_ii, oGe_ii, oSub_ii, oAdd_ii, oEq_ss, oEq_ii, oEq_bb, oNe_ss, oNe_ii, oNe_bb, oEq_l0, oNe_l0, oEq_t0, oNe_t0]
  exact rng_lt q
/-! ### names -/
theorem signs_get (z : Str) : ∀ t ∈ (z.cps.toList.map fun c => T.str ⟨#[c]⟩), ∃ c ∈ z.cps.toList, t = .str ⟨#[c]⟩ := by
  intro t h
  obtain ⟨c, h1, h2⟩ := List.mem_map.mp h
  exact ⟨c, h1, h2.symm⟩
def chr (t : T) : Nat := match t with
  | .str z => z.cps.toList.headD 0
  | _ => 0
theorem inl_letter {c : Nat} {ρ : Sl} {S : Sto} {i : Nat} (h : ρ[i]? = some (some (.str ⟨#[c]⟩))) (R : Post) (q : R (.bl (letS c)) S) : wOp (oIn false) (wVar i) (wC (T.str (Str.ofString "abcdefghijklmnopqrstuvwxyz"))) ρ S R :=
  ⟨_, h, _, rfl, q⟩
theorem letters_all {z : Str} {S : Sto} {R : Post} {w : WE} {ρ : Sl} {i : Nat} {vs : List Nat} (hz : z.length ≤ sizeLine) (hw : ∀ R' : Post, R' (.str z) S → w ρ S R') (hi : i < (wipeT ρ vs).length) (q : R (.bl (z.cps.toList.all letS)) S) :
    wLc (wItems w) (Tg.nm i) wYes (wOp (oIn false) (wVar i) (wC (T.str (Str.ofString "abcdefghijklmnopqrstuvwxyz")))) vs ρ S fun x S1 => oAll [x] S1 R := by
  refine wLc_map (fun t => .bl (letS (chr t))) hw rfl (by rw [List.length_map]; exact hz) ?_ (oAll_map ?_)
  · intro x hx
    obtain ⟨c, _, rfl⟩ := signs_get z x hx
    refine ⟨_, rfl, fun R' q => inl_letter (c := c) ?_ R' q⟩
    rw [List.getElem?_set_self hi]
  · rw [List.all_map]
    exact q
theorem ok_is_name : ∀ ts S R, sp_is_name ts S R → w_is_name { nx := fun _ S' => R .non S', rt := R } (startT n_is_name ts) S := by
  rintro ts S R ⟨z, rfl, hz, q⟩
  have hsl := sizeLine_eq
  have hl : lenT S (.str z) = some z.length := by simp [lenT]; omega
  simp only [w_is_name, n_is_name, startT, List.map_cons, List.map_nil, List.cons_append, List.nil_append]
  simp [isA, tyT, isiB, oLen_1 hl, sRet, sIf, sSeq, sSet, sNext, sDrop, sRetN, wVar, wC, wOp, wUn, wCall, wCons, wNil, wTup, wLst, wTst, wTru, wAnd, wOr, wNot, wAndV, wOrV, wNotV, wIfE, wChain, wIsi, truT_bl, truT_non, truT_int, truT_lst, truT_tup, oLt_ii, oLe_ii, oGt_ii, oGe_ii, oSub_ii, oAdd_ii, oEq_ss, oEq_ii, oEq_bb, oNe_ss, oNe_ii, oNe_bb, oEq_l0, oNe_l0, oEq_t0, oNe_t0]
  unfold nameS partS at q
  by_cases h1 : z.length < 1
  · refine .inl ⟨by omega, ?_⟩
    rw [decide_eq_false (show ¬ 1 ≤ z.length by omega)] at q
    exact q
  · refine .inr ⟨by omega, ?_⟩
    rw [decide_eq_true (show 1 ≤ z.length by omega)] at q
    by_cases h2 : 8 < z.length
    · refine .inl ⟨by omega, ?_⟩
      rw [decide_eq_false (show ¬ z.length ≤ 8 by omega)] at q
      exact q
    · refine .inr ⟨by omega, ?_⟩
      rw [decide_eq_true (show z.length ≤ 8 by omega)] at q
      by_cases h3 : z = Str.ofString "start"
      · refine .inr ⟨h3, ?_⟩
        rw [beq_iff_eq.mpr h3] at q
        simpa using q
      · refine .inl ⟨h3, ?_⟩
        rw [beq_eq_false_iff_ne.mpr h3] at q
        exact letters_all (by omega) (fun R' q => ⟨_, rfl, q⟩) (by simp [wipeT]) (by simpa using q)
theorem part_start : partS "start" = true := by decide +kernel
theorem full_of {z : Str} : fullS z = (if (Txt.split z ".").length = 1 then nameS z else match Txt.split z "." with
    | [p, r] => nameS p && (nameS r || r == "start")
    | _ => false) := by
  have hd : (("." : Str)) = ⟨#[46]⟩ := by decide +kernel
  unfold fullS
  by_cases h1 : (Txt.split z ".").length = 1
  · rw [if_pos h1, split_one hd (by decide) h1]
    simp [nameS]
  · rw [if_neg h1]
    split
    · next p r h =>
      rw [h]
      by_cases e : r = "start"
      · subst e
        simp [nameS, part_start]
      · have e' : (r == Str.ofString "start") = false := beq_eq_false_iff_ne.mpr e
        simp only [nameS, List.all_cons, List.all_nil, List.headD_cons, e', List.length_cons, List.length_nil]
        cases partS p <;> cases partS r <;> simp
    · next h =>
      have hn := split_ne (z := z) hd (by decide)
      cases hs : Txt.split z "." with
      | nil => exact absurd hs hn
      | cons p l =>
        cases l with
        | nil => rw [hs] at h1; simp at h1
        | cons r l =>
          cases l with
          | nil => exact absurd hs (h p r)
          | cons t l =>
            simp only [List.length_cons]
            rw [decide_eq_false (show ¬ (l.length + 1 + 1 + 1 < 3) by omega)]
            simp
theorem ok_is_full_name : ∀ ts S R, sp_is_full_name ts S R → w_is_full_name { nx := fun _ S' => R .non S', rt := R } (startT n_is_full_name ts) S := by
  rintro ts S R ⟨t, rfl, g, q⟩
  have h1 := gt_isa g
  have h2 := gt_ty g
  simp only [w_is_full_name, n_is_full_name, startT, List.map_cons, List.map_nil, List.cons_append, List.nil_append]
  cases t with
  | str z =>
    have hd : (("." : Str)) = ⟨#[46]⟩ := by decide +kernel
    have hz : z.length ≤ 1000 := by simpa [GT] using g
    have hsl := sizeLine_eq
    have hlen := split_len (z := z) hd (by decide)
    have hm := fun p (hp : p ∈ Txt.split z ".") => split_mem hd (by decide) hp
    have q : R (.bl (fullS z)) S := q
    rw [full_of] at q
    have hs := fun S R => oSplit_1 (a := z) (b := ".") (S := S) (R := R) (by decide) (by omega) (by omega)
    have hn := split_ne (z := z) hd (by decide)
    cases h : Txt.split z "." with
    | nil => exact absurd h hn
    | cons p l =>
      cases l with
      | nil =>
        rw [h] at q
        have hp := hm p (by rw [h]; simp)
        simp [h1, h2, h, hs, wMeth, tyT, isA, isiB, oLen, lenT, sp_is_name, hz, sRet, sIf, sSeq, sSet, sNext, sDrop, sRetN, wVar, wC, wOp, wUn, wCall, wCons, wNil, wTup, wLst, wTst, wTru, wAnd, wOr, wNot, wAndV, wOrV, wNotV, wIfE, wChain, wIsi, truT_bl, truT_non, truT_int, truT_lst, truT_tup, oLt_ii, oLe_ii, oGt_ii, oGe_ii, oSub_ii, oAdd_ii, oEq_ss, oEq_ii, oEq_bb, oNe_ss, oNe_ii, oNe_bb, oEq_l0, oNe_l0, oEq_t0, oNe_t0]
        exact q
      | cons r l =>
        have hp := hm p (by rw [h]; simp)
        have hr := hm r (by rw [h]; simp)
        cases l with
        | nil =>
          rw [h] at q
          simp [h1, h2, h, hs, wMeth, tyT, isA, isiB, oLen, lenT, sp_is_name, oIx, seqT, atI, ixN, show p.length ≤ 1000 by omega, show r.length ≤ 1000 by omega, sRet, sIf, sSeq, sSet, sNext, sDrop, sRetN, wVar, wC, wOp, wUn, wCall, wCons, wNil, wTup, wLst, wTst, wTru, wAnd, wOr, wNot, wAndV, wOrV, wNotV, wIfE, wChain, wIsi, truT_bl, truT_non, truT_int, truT_lst, truT_tup, oLt_ii, oLe_ii, oGt_ii, oGe_ii, oSub_ii, oAdd_ii, oEq_ss, oEq_ii, oEq_bb, oNe_ss, oNe_ii, oNe_bb, oEq_l0, oNe_l0, oEq_t0, oNe_t0]
          cases hp : nameS p <;> cases hr : nameS r <;> simp_all
        | cons u l =>
          rw [h] at q
          simp [h1, h2, h, hs, wMeth, tyT, isA, isiB, oLen, lenT, sp_is_name, oIx, seqT, atI, ixN, sRet, sIf, sSeq, sSet, sNext, sDrop, sRetN, wVar, wC, wOp, wUn, wCall, wCons, wNil, wTup, wLst, wTst, wTru, wAnd, wOr, wNot, wAndV, wOrV, wNotV, wIfE, wChain, wIsi, truT_bl, truT_non, truT_int, truT_lst, truT_tup, oLt_ii, oLe_ii, oGt_ii, oGe_ii, oSub_ii, oAdd_ii, oEq_ss, oEq_ii, oEq_bb, oNe_ss, oNe_ii, oNe_bb, oEq_l0, oNe_l0, oEq_t0, oNe_t0]
          refine .inl ⟨by omega, .inl ⟨by omega, ?_⟩⟩
          rw [beq_eq_false_iff_ne.mpr (show (l.length : Int) + 1 + 1 + 1 ≠ 2 by omega)]
          simpa using q
  | _ => simp_all [fullT, sRet, sIf, sSeq, sSet, sNext, sDrop, sRetN, wVar, wC, wOp, wUn, wCall, wCons, wNil, wTup, wLst, wTst, wTru, wAnd, wOr, wNot, wAndV, wOrV, wNotV, wIfE, wChain, wIsi, truT_bl, truT_non, truT_int, truT_lst, truT_tup, oLt_ii, oLe_ii, oGt_ii, oGe_ii, oSub_ii, oAdd_ii, oEq_ss, oEq_ii, oEq_bb, oNe_ss, oNe_ii, oNe_bb, oEq_l0, oNe_l0, oEq_t0, oNe_t0]
theorem ex2 {α β : Type} {a : T} {n : Int} {P : T → Int → Prop} : (∃ t m, [a, T.int n] = [t, T.int m] ∧ P t m) ↔ P a n :=
  ⟨fun ⟨t, m, e, q⟩ => by cases e; exact q, fun q => ⟨a, n, rfl, q⟩⟩
theorem iff_whole {t : T} {n : Int} {S : Sto} {R : Post} : sp_law_is_whole [t, .int n] S R ↔ GT S t ∧ R (.bl (wordT t n)) S := ex2 (α := Unit) (β := Unit)
theorem iff_bnum {t : T} {n : Int} {S : Sto} {R : Post} : sp_is_block_number [t, .int n] S R ↔ GT S t ∧ R (.bl (wordT t n)) S := ex2 (α := Unit) (β := Unit)
theorem iff_term {t : T} {n : Int} {S : Sto} {R : Post} : sp_is_terminator [t, .int n] S R ↔ GT S t ∧ R (.bl (builtT endsL t n)) S := ex2 (α := Unit) (β := Unit)
theorem iff_block {t : T} {n : Int} {S : Sto} {R : Post} : sp_is_block [t, .int n] S R ↔ GT S t ∧ R (.bl (blockT t n)) S := ex2 (α := Unit) (β := Unit)
theorem iff_hasw {t : T} {e : Bool} {S : Sto} {R : Post} : sp_has_word [t, .bl e] S R ↔ GT S t ∧ R (.bl (hasW (if e then c_END_PARTS else c_PARTS) t)) S :=
  ⟨fun ⟨t, m, e, q⟩ => by cases e; exact q, fun q => ⟨_, _, rfl, q⟩⟩
theorem iff_b1 {f : T → Bool} {t : T} {S : Sto} {R : Post} : spB1 f [t] S R ↔ GT S t ∧ R (.bl (f t)) S :=
  ⟨fun ⟨t, e, q⟩ => by cases e; exact q, fun q => ⟨_, rfl, q⟩⟩
/-- a tuple's length, by its items -/
theorem oLen_t {ts : List T} {S : Sto} {R : Post} : oLen [.tup ts] S R ↔ R (.int (ts.length : Nat)) S := oLen_1 rfl
theorem oLen_l {ts : List T} {S : Sto} {R : Post} : oLen [.lst ts] S R ↔ R (.int (ts.length : Nat)) S := oLen_1 rfl
theorem gt2 {S : Sto} {x y : T} (g : GT S (.tup [x, y])) : plT x = true ∧ plT y = true ∧ GT S x ∧ GT S y := by
  simp only [GT, GTs] at g
  exact ⟨g.2.1 (by omega), g.2.2.2.1 (by omega), g.2.2.1, g.2.2.2.2.1⟩
theorem ok_is_function_value : ∀ ts S R, sp_is_function_value ts S R → w_is_function_value { nx := fun _ S' => R .non S', rt := R } (startT n_is_function_value ts) S := by
  rintro ts S R ⟨t, rfl, g, q⟩
  have h1 := gt_isa g
  have h2 := gt_ty g
  simp only [w_is_function_value, n_is_function_value, startT, List.map_cons, List.map_nil, List.cons_append, List.nil_append]
  cases t with
  | tup ts =>
    match ts, g, h1, h2, q with
    | [], g, h1, h2, q => simp [h1, h2, oLen_t, sRet, sIf, sSeq, sSet, sNext, sDrop, sRetN, wVar, wC, wOp, wUn, wCall, wCons, wNil, wTup, wLst, wTst, wTru, wAnd, wOr, wNot, wAndV, wOrV, wNotV, wIfE, wChain, wIsi, truT_bl, truT_non, truT_int, truT_lst, truT_tup, oLt_ii, oLe_ii, oGt_ii, oGe_ii, oSub_ii, oAdd_ii, oEq_ss, oEq_ii, oEq_bb, oNe_ss, oNe_ii, oNe_bb, oEq_l0, oNe_l0, oEq_t0, oNe_t0]; exact q
    | [x], g, h1, h2, q => simp [h1, h2, oLen_t, sRet, sIf, sSeq, sSet, sNext, sDrop, sRetN, wVar, wC, wOp, wUn, wCall, wCons, wNil, wTup, wLst, wTst, wTru, wAnd, wOr, wNot, wAndV, wOrV, wNotV, wIfE, wChain, wIsi, truT_bl, truT_non, truT_int, truT_lst, truT_tup, oLt_ii, oLe_ii, oGt_ii, oGe_ii, oSub_ii, oAdd_ii, oEq_ss, oEq_ii, oEq_bb, oNe_ss, oNe_ii, oNe_bb, oEq_l0, oNe_l0, oEq_t0, oNe_t0]; exact q
    | [x, y], g, h1, h2, q =>
      obtain ⟨p1, p2, g1, g2⟩ := gt2 g
      have e := fun S R => oEq_xs (t := x) (b := "func") (S := S) (R := R) p1
      simp [h1, h2, oLen_t, oIx, seqT, atI, ixN, e, sp_is_full_name, spB1, g2, sRet, sIf, sSeq, sSet, sNext, sDrop, sRetN, wVar, wC, wOp, wUn, wCall, wCons, wNil, wTup, wLst, wTst, wTru, wAnd, wOr, wNot, wAndV, wOrV, wNotV, wIfE, wChain, wIsi, truT_bl, truT_non, truT_int, truT_lst, truT_tup, oLt_ii, oLe_ii, oGt_ii, oGe_ii, oSub_ii, oAdd_ii, oEq_ss, oEq_ii, oEq_bb, oNe_ss, oNe_ii, oNe_bb, oEq_l0, oNe_l0, oEq_t0, oNe_t0]
      simp only [funcT] at q
      cases hx : isStrB x "func" <;> simp_all
    | x :: y :: z :: l, g, h1, h2, q =>
      simp [h1, h2, oLen_t, sRet, sIf, sSeq, sSet, sNext, sDrop, sRetN, wVar, wC, wOp, wUn, wCall, wCons, wNil, wTup, wLst, wTst, wTru, wAnd, wOr, wNot, wAndV, wOrV, wNotV, wIfE, wChain, wIsi, truT_bl, truT_non, truT_int, truT_lst, truT_tup, oLt_ii, oLe_ii, oGt_ii, oGe_ii, oSub_ii, oAdd_ii, oEq_ss, oEq_ii, oEq_bb, oNe_ss, oNe_ii, oNe_bb, oEq_l0, oNe_l0, oEq_t0, oNe_t0]
      exact .inl ⟨by omega, q⟩
  | _ => simp_all [funcT, sRet, sIf, sSeq, sSet, sNext, sDrop, sRetN, wVar, wC, wOp, wUn, wCall, wCons, wNil, wTup, wLst, wTst, wTru, wAnd, wOr, wNot, wAndV, wOrV, wNotV, wIfE, wChain, wIsi, truT_bl, truT_non, truT_int, truT_lst, truT_tup, oLt_ii, oLe_ii, oGt_ii, oGe_ii, oSub_ii, oAdd_ii, oEq_ss, oEq_ii, oEq_bb, oNe_ss, oNe_ii, oNe_bb, oEq_l0, oNe_l0, oEq_t0, oNe_t0]
theorem ok_is_value : ∀ ts S R, sp_is_value ts S R → w_is_value { nx := fun _ S' => R .non S', rt := R } (startT n_is_value ts) S := by
  rintro ts S R ⟨t, rfl, g, q⟩
  simp only [w_is_value, n_is_value, startT, List.map_cons, List.map_nil, List.cons_append, List.nil_append]
  simp [sp_is_word, sp_is_function_value, spB1, g, sRet, sIf, sSeq, sSet, sNext, sDrop, sRetN, wVar, wC, wOp, wUn, wCall, wCons, wNil, wTup, wLst, wTst, wTru, wAnd, wOr, wNot, wAndV, wOrV, wNotV, wIfE, wChain, wIsi, truT_bl, truT_non, truT_int, truT_lst, truT_tup, oLt_ii, oLe_ii, oGt_ii, oGe_ii, oSub_ii, oAdd_ii, oEq_ss, oEq_ii, oEq_bb, oNe_ss, oNe_ii, oNe_bb, oEq_l0, oNe_l0, oEq_t0, oNe_t0]
  cases t <;> simp_all [valueT, wordT, funcT]
  next i =>
    intro h
    have e : (decide (0 ≤ i) && decide (i < 65536)) = false := by simpa using h
    rw [e] at q
    exact q
theorem ok_is_operand : ∀ ts S R, sp_is_operand ts S R → w_is_operand { nx := fun _ S' => R .non S', rt := R } (startT n_is_operand ts) S := by
  rintro ts S R ⟨t, rfl, g, q⟩
  have h1 := gt_isa g
  have h2 := gt_ty g
  simp only [w_is_operand, n_is_operand, startT, List.map_cons, List.map_nil, List.cons_append, List.nil_append]
  cases t with
  | tup ts =>
    match ts, g, h1, h2, q with
    | [], g, h1, h2, q => simp [h1, h2, oLen_t, sRet, sIf, sSeq, sSet, sNext, sDrop, sRetN, wVar, wC, wOp, wUn, wCall, wCons, wNil, wTup, wLst, wTst, wTru, wAnd, wOr, wNot, wAndV, wOrV, wNotV, wIfE, wChain, wIsi, truT_bl, truT_non, truT_int, truT_lst, truT_tup, oLt_ii, oLe_ii, oGt_ii, oGe_ii, oSub_ii, oAdd_ii, oEq_ss, oEq_ii, oEq_bb, oNe_ss, oNe_ii, oNe_bb, oEq_l0, oNe_l0, oEq_t0, oNe_t0]; exact q
    | [x], g, h1, h2, q => simp [h1, h2, oLen_t, sRet, sIf, sSeq, sSet, sNext, sDrop, sRetN, wVar, wC, wOp, wUn, wCall, wCons, wNil, wTup, wLst, wTst, wTru, wAnd, wOr, wNot, wAndV, wOrV, wNotV, wIfE, wChain, wIsi, truT_bl, truT_non, truT_int, truT_lst, truT_tup, oLt_ii, oLe_ii, oGt_ii, oGe_ii, oSub_ii, oAdd_ii, oEq_ss, oEq_ii, oEq_bb, oNe_ss, oNe_ii, oNe_bb, oEq_l0, oNe_l0, oEq_t0, oNe_t0]; exact q
    | [x, y], g, h1, h2, q =>
      obtain ⟨p1, p2, g1, g2⟩ := gt2 g
      have e := fun S R => oEq_xs (t := x) (b := "var") (S := S) (R := R) p1
      have i1 := gt_isa g1
      have i2 := gt_ty g1
      simp [h1, h2, oLen_t, oIx, seqT, atI, ixN, e, i2, sp_is_variable, spB1, g2, sRet, sIf, sSeq, sSet, sNext, sDrop, sRetN, wVar, wC, wOp, wUn, wCall, wCons, wNil, wTup, wLst, wTst, wTru, wAnd, wOr, wNot, wAndV, wOrV, wNotV, wIfE, wChain, wIsi, truT_bl, truT_non, truT_int, truT_lst, truT_tup, oLt_ii, oLe_ii, oGt_ii, oGe_ii, oSub_ii, oAdd_ii, oEq_ss, oEq_ii, oEq_bb, oNe_ss, oNe_ii, oNe_bb, oEq_l0, oNe_l0, oEq_t0, oNe_t0]
      simp only [operT] at q
      cases hx : isStrB x "var" with
      | false => simp_all
      | true =>
        have ex : x = .str "var" := by cases x <;> simp_all [isStrB]
        subst ex
        simp_all
    | x :: y :: z :: l, g, h1, h2, q =>
      simp [h1, h2, oLen_t, sRet, sIf, sSeq, sSet, sNext, sDrop, sRetN, wVar, wC, wOp, wUn, wCall, wCons, wNil, wTup, wLst, wTst, wTru, wAnd, wOr, wNot, wAndV, wOrV, wNotV, wIfE, wChain, wIsi, truT_bl, truT_non, truT_int, truT_lst, truT_tup, oLt_ii, oLe_ii, oGt_ii, oGe_ii, oSub_ii, oAdd_ii, oEq_ss, oEq_ii, oEq_bb, oNe_ss, oNe_ii, oNe_bb, oEq_l0, oNe_l0, oEq_t0, oNe_t0]
      exact .inl ⟨by omega, q⟩
  | _ => simp_all [operT, sp_is_word, spB1, sRet, sIf, sSeq, sSet, sNext, sDrop, sRetN, wVar, wC, wOp, wUn, wCall, wCons, wNil, wTup, wLst, wTst, wTru, wAnd, wOr, wNot, wAndV, wOrV, wNotV, wIfE, wChain, wIsi, truT_bl, truT_non, truT_int, truT_lst, truT_tup, oLt_ii, oLe_ii, oGt_ii, oGe_ii, oSub_ii, oAdd_ii, oEq_ss, oEq_ii, oEq_bb, oNe_ss, oNe_ii, oNe_bb, oEq_l0, oNe_l0, oEq_t0, oNe_t0]
theorem ok_law_is_operand : ∀ ts S R, sp_law_is_operand ts S R → w_law_is_operand { nx := fun _ S' => R .non S', rt := R } (startT n_law_is_operand ts) S := by
  rintro ts S R ⟨t, rfl, g, q⟩
  have h1 := gt_isa g
  have h2 := gt_ty g
  simp only [w_law_is_operand, n_law_is_operand, startT, List.map_cons, List.map_nil, List.cons_append, List.nil_append]
  cases t with
  | tup ts =>
    match ts, g, h1, h2, q with
    | [], g, h1, h2, q => simp [h1, h2, oLen_t, sRet, sIf, sSeq, sSet, sNext, sDrop, sRetN, wVar, wC, wOp, wUn, wCall, wCons, wNil, wTup, wLst, wTst, wTru, wAnd, wOr, wNot, wAndV, wOrV, wNotV, wIfE, wChain, wIsi, truT_bl, truT_non, truT_int, truT_lst, truT_tup, oLt_ii, oLe_ii, oGt_ii, oGe_ii, oSub_ii, oAdd_ii, oEq_ss, oEq_ii, oEq_bb, oNe_ss, oNe_ii, oNe_bb, oEq_l0, oNe_l0, oEq_t0, oNe_t0]; exact q
    | [x], g, h1, h2, q => simp [h1, h2, oLen_t, sRet, sIf, sSeq, sSet, sNext, sDrop, sRetN, wVar, wC, wOp, wUn, wCall, wCons, wNil, wTup, wLst, wTst, wTru, wAnd, wOr, wNot, wAndV, wOrV, wNotV, wIfE, wChain, wIsi, truT_bl, truT_non, truT_int, truT_lst, truT_tup, oLt_ii, oLe_ii, oGt_ii, oGe_ii, oSub_ii, oAdd_ii, oEq_ss, oEq_ii, oEq_bb, oNe_ss, oNe_ii, oNe_bb, oEq_l0, oNe_l0, oEq_t0, oNe_t0]; exact q
    | [x, y], g, h1, h2, q =>
      obtain ⟨p1, p2, g1, g2⟩ := gt2 g
      have e := fun S R => oEq_xs (t := x) (b := "var") (S := S) (R := R) p1
      simp [h1, h2, oLen_t, oIx, seqT, atI, ixN, e, iff_whole, g2, sRet, sIf, sSeq, sSet, sNext, sDrop, sRetN, wVar, wC, wOp, wUn, wCall, wCons, wNil, wTup, wLst, wTst, wTru, wAnd, wOr, wNot, wAndV, wOrV, wNotV, wIfE, wChain, wIsi, truT_bl, truT_non, truT_int, truT_lst, truT_tup, oLt_ii, oLe_ii, oGt_ii, oGe_ii, oSub_ii, oAdd_ii, oEq_ss, oEq_ii, oEq_bb, oNe_ss, oNe_ii, oNe_bb, oEq_l0, oNe_l0, oEq_t0, oNe_t0]
      simp only [operT] at q
      cases hx : isStrB x "var" <;> simp_all
    | x :: y :: z :: l, g, h1, h2, q =>
      simp [h1, h2, oLen_t, sRet, sIf, sSeq, sSet, sNext, sDrop, sRetN, wVar, wC, wOp, wUn, wCall, wCons, wNil, wTup, wLst, wTst, wTru, wAnd, wOr, wNot, wAndV, wOrV, wNotV, wIfE, wChain, wIsi, truT_bl, truT_non, truT_int, truT_lst, truT_tup, oLt_ii, oLe_ii, oGt_ii, oGe_ii, oSub_ii, oAdd_ii, oEq_ss, oEq_ii, oEq_bb, oNe_ss, oNe_ii, oNe_bb, oEq_l0, oNe_l0, oEq_t0, oNe_t0]
      exact .inl ⟨by omega, q⟩
  | _ => simp_all [operT, iff_whole, sRet, sIf, sSeq, sSet, sNext, sDrop, sRetN, wVar, wC, wOp, wUn, wCall, wCons, wNil, wTup, wLst, wTst, wTru, wAnd, wOr, wNot, wAndV, wOrV, wNotV, wIfE, wChain, wIsi, truT_bl, truT_non, truT_int, truT_lst, truT_tup, oLt_ii, oLe_ii, oGt_ii, oGe_ii, oSub_ii, oAdd_ii, oEq_ss, oEq_ii, oEq_bb, oNe_ss, oNe_ii, oNe_bb, oEq_l0, oNe_l0, oEq_t0, oNe_t0]
theorem ok_are_operands : ∀ ts S R, sp_are_operands ts S R → w_are_operands { nx := fun _ S' => R .non S', rt := R } (startT n_are_operands ts) S := by
  rintro ts S R ⟨t, rfl, g, q⟩
  have hsl := sizeLine_eq
  simp only [w_are_operands, n_are_operands, startT, List.map_cons, List.map_nil, List.cons_append, List.nil_append]
  by_cases ht : ∃ xs, t = .tup xs
  · obtain ⟨xs, rfl⟩ := ht
    have gm : xs.length ≤ 10000 ∧ ∀ x ∈ xs, GT S x := by
      rcases g with ⟨ys, e, h1, h2⟩ | g
      · cases e; exact ⟨h1, h2⟩
      · exact ⟨gt_len g, fun x hx => gt_mem g hx⟩
    simp [isA, tyT, isiB, sRet, sIf, sSeq, sSet, sNext, sDrop, sRetN, wVar, wC, wOp, wUn, wCall, wCons, wNil, wTup, wLst, wTst, wTru, wAnd, wOr, wNot, wAndV, wOrV, wNotV, wIfE, wChain, wIsi, truT_bl, truT_non, truT_int, truT_lst, truT_tup, oLt_ii, oLe_ii, oGt_ii, oGe_ii, oSub_ii, oAdd_ii, oEq_ss, oEq_ii, oEq_bb, oNe_ss, oNe_ii, oNe_bb, oEq_l0, oNe_l0, oEq_t0, oNe_t0]
    refine wLc_map (ts := xs) (fun x => .bl (operT x)) (fun R' q => ⟨_, rfl, q⟩) rfl (by omega) (fun x hx => ⟨_, rfl, fun R' q => ?_⟩) (oAll_map q)
    exact ⟨x, rfl, x, rfl, gm.2 x hx, q⟩
  · have g : GT S t := by
      rcases g with ⟨ys, e, h1, h2⟩ | g
      · exact absurd ⟨ys, e⟩ ht
      · exact g
    have h1 := gt_isa g
    have h2 := gt_ty g
    cases t <;> simp_all [opersT, sRet, sIf, sSeq, sSet, sNext, sDrop, sRetN, wVar, wC, wOp, wUn, wCall, wCons, wNil, wTup, wLst, wTst, wTru, wAnd, wOr, wNot, wAndV, wOrV, wNotV, wIfE, wChain, wIsi, truT_bl, truT_non, truT_int, truT_lst, truT_tup, oLt_ii, oLe_ii, oGt_ii, oGe_ii, oSub_ii, oAdd_ii, oEq_ss, oEq_ii, oEq_bb, oNe_ss, oNe_ii, oNe_bb, oEq_l0, oNe_l0, oEq_t0, oNe_t0]
theorem ok_law_is_full_name : ∀ ts S R, sp_law_is_full_name ts S R → w_law_is_full_name { nx := fun _ S' => R .non S', rt := R } (startT n_law_is_full_name ts) S := by
  rintro ts S R ⟨t, rfl, g, q⟩
  have h1 := gt_isa g
  have h2 := gt_ty g
  have hsl := sizeLine_eq
  simp only [w_law_is_full_name, n_law_is_full_name, startT, List.map_cons, List.map_nil, List.cons_append, List.nil_append]
  cases t with
  | str z =>
    have hd : (("." : Str)) = ⟨#[46]⟩ := by decide +kernel
    have hz : z.length ≤ 1000 := by simpa [GT] using g
    have hlen := split_len (z := z) hd (by decide)
    have hm := fun p (hp : p ∈ Txt.split z ".") => split_mem hd (by decide) hp
    have q : R (.bl (fullS z)) S := q
    unfold fullS at q
    have hs := fun S R => oSplit_1 (a := z) (b := ".") (S := S) (R := R) (by decide) (by omega) (by omega)
    have hn := split_ne (z := z) hd (by decide)
    simp [h1, h2, hs, wMeth, tyT, isA, isiB, sFor, wItems, itemsT, sRet, sIf, sSeq, sSet, sNext, sDrop, sRetN, wVar, wC, wOp, wUn, wCall, wCons, wNil, wTup, wLst, wTst, wTru, wAnd, wOr, wNot, wAndV, wOrV, wNotV, wIfE, wChain, wIsi, truT_bl, truT_non, truT_int, truT_lst, truT_tup, oLt_ii, oLe_ii, oGt_ii, oGe_ii, oSub_ii, oAdd_ii, oEq_ss, oEq_ii, oEq_bb, oNe_ss, oNe_ii, oNe_bb, oEq_l0, oNe_l0, oEq_t0, oNe_t0]
    generalize Txt.split z "." = ps at *
    refine loop_rest (fun rest ρ S' => S' = S ∧ ρ.length = 4 ∧ ρ[1]? = some (some (.lst (ps.map T.str))) ∧ ∃ qs pre, rest = qs.map T.str ∧ ps = pre ++ qs ∧ pre.all partS = true) ⟨rfl, rfl, rfl, ps, [], rfl, rfl, rfl⟩ ?_ ?_
    · rintro t rest ρ S' ⟨rfl, hρ, hρ1, qs, pre, e1, e2, e3⟩
      cases qs with
      | nil => simp at e1
      | cons p qs =>
        rw [List.map_cons] at e1
        injection e1 with e1 e4
        subst e1; subst e4
        refine ⟨_, rfl, fun nx hnx => ?_⟩
        have hp : p.length ≤ z.length := hm p (by rw [e2]; simp)
        have hl : lenT S' (.str p) = some p.length := by simp [lenT]; omega
        have h2 : (ρ.set 2 (some (T.str p)))[2]? = some (some (.str p)) := by rw [List.getElem?_set_self (by omega)]
        have bad : partS p = false → R (.bl false) S' := fun hb => by
          have : ps.all partS = false := by rw [e2]; simp [hb]
          rw [this] at q
          exact q
        have good : partS p = true → nx (ρ.set 2 (some (T.str p))) S' := fun hg =>
          hnx _ _ ⟨rfl, by simp [hρ], by rw [List.getElem?_set_ne (by decide)]; exact hρ1, qs, pre ++ [p], rfl, by simp [e2], by simp [e3, hg]⟩
        simp [h2, oLen_1 hl, sRet, sIf, sSeq, sSet, sNext, sDrop, sRetN, wVar, wC, wOp, wUn, wCall, wCons, wNil, wTup, wLst, wTst, wTru, wAnd, wOr, wNot, wAndV, wOrV, wNotV, wIfE, wChain, wIsi, truT_bl, truT_non, truT_int, truT_lst, truT_tup, oLt_ii, oLe_ii, oGt_ii, oGe_ii, oSub_ii, oAdd_ii, oEq_ss, oEq_ii, oEq_bb, oNe_ss, oNe_ii, oNe_bb, oEq_l0, oNe_l0, oEq_t0, oNe_t0]
        unfold partS at bad good
        by_cases g1 : p.length < 1
        · refine .inl ⟨by omega, bad ?_⟩
          rw [decide_eq_false (show ¬ 1 ≤ p.length by omega)]; rfl
        · refine .inr ⟨by omega, ?_⟩
          by_cases g2 : 8 < p.length
          · refine .inl ⟨by omega, bad ?_⟩
            rw [decide_eq_false (show ¬ p.length ≤ 8 by omega)]; simp
          · refine .inr ⟨by omega, ?_⟩
            rw [decide_eq_true (show 1 ≤ p.length by omega), decide_eq_true (show p.length ≤ 8 by omega)] at bad good
            refine wLc_filter (ts := p.cps.toList.map fun c => T.str ⟨#[c]⟩) (fun t => !letS (chr t)) (fun _ => .int 1) (fun R' q => ⟨_, h2, q⟩) rfl (by rw [List.length_map]; show p.length ≤ sizeLine; omega) (fun x hx => ?_) ?_
            · obtain ⟨c, _, rfl⟩ := signs_get p x hx
              refine ⟨_, rfl, fun R' q => ?_, fun R' q => q⟩
              refine ⟨_, List.getElem?_set_self (by simp [wipeT, hρ]), ⟨#[c]⟩, rfl, ?_⟩
              exact ⟨_, rfl, q⟩
            · rw [oNe_l0, filter_empty, List.all_map]
              simp only [Function.comp_def, Bool.not_not]
              cases hb : p.cps.toList.all letS
              · have hb' : (p.cps.toList.all fun x => letS (chr (T.str ⟨#[x]⟩))) = false := hb
                rw [hb']
                exact .inr ⟨rfl, bad (by rw [hb]; rfl)⟩
              · have hb' : (p.cps.toList.all fun x => letS (chr (T.str ⟨#[x]⟩))) = true := hb
                rw [hb']
                exact .inl ⟨rfl, good (by rw [hb]; rfl)⟩
    · rintro ρ S' ⟨rfl, hρ, hρ1, qs, pre, e1, e2, e3⟩
      have : qs = [] := by cases qs <;> simp at e1 <;> rfl
      subst this
      rw [List.append_nil] at e2
      subst e2
      simp [hρ1, oLen_l, sRet, sIf, sSeq, sSet, sNext, sDrop, sRetN, wVar, wC, wOp, wUn, wCall, wCons, wNil, wTup, wLst, wTst, wTru, wAnd, wOr, wNot, wAndV, wOrV, wNotV, wIfE, wChain, wIsi, truT_bl, truT_non, truT_int, truT_lst, truT_tup, oLt_ii, oLe_ii, oGt_ii, oGe_ii, oSub_ii, oAdd_ii, oEq_ss, oEq_ii, oEq_bb, oNe_ss, oNe_ii, oNe_bb, oEq_l0, oNe_l0, oEq_t0, oNe_t0]
      rw [e3, Bool.true_and] at q
      cases ps with
      | nil => exact absurd rfl hn
      | cons p l =>
        simp only [List.headD_cons] at q
        rw [List.map_cons, oIx_l (t := .str p) (by simp [atI, ixN]), oNe_ss]
        by_cases h3 : (p :: l).length < 3
        · rw [decide_eq_true h3, Bool.true_and] at q
          exact .inr ⟨by omega, q⟩
        · rw [decide_eq_false h3] at q
          refine .inl ⟨by omega, ?_⟩
          rw [decide_eq_false (by omega)]
          exact q
  | _ => simp_all [fullT, sRet, sIf, sSeq, sSet, sNext, sDrop, sRetN, wVar, wC, wOp, wUn, wCall, wCons, wNil, wTup, wLst, wTst, wTru, wAnd, wOr, wNot, wAndV, wOrV, wNotV, wIfE, wChain, wIsi, truT_bl, truT_non, truT_int, truT_lst, truT_tup, oLt_ii, oLe_ii, oGt_ii, oGe_ii, oSub_ii, oAdd_ii, oEq_ss, oEq_ii, oEq_bb, oNe_ss, oNe_ii, oNe_bb, oEq_l0, oNe_l0, oEq_t0, oNe_t0]
end TL.K

set_option Elab.async false
set_option linter.all false
set_option maxRecDepth 100000
set_option maxHeartbeats 8000000
namespace TL.K
open PySem L2 PyProof.Rows
theorem lookS_int {kvs : List (Str × T)} (h : kvs.all (fun p => match p.2 with | .int _ => true | _ => false) = true) (w : Str) : lookS w kvs = none ∨ ∃ n, lookS w kvs = some (.int n) := by
  induction kvs with
  | nil => exact .inl rfl
  | cons p kvs ih =>
    obtain ⟨k, t⟩ := p
    rw [List.all_cons, Bool.and_eq_true] at h
    simp only [lookS]
    by_cases e : k = w
    · rw [if_pos e]
      cases t <;> simp at h
      exact .inr ⟨_, rfl⟩
    · rw [if_neg e]
      exact ih h.2
theorem gt1 {S : Sto} {x : T} {l : List T} (g : GT S (.tup (x :: l))) : plT x = true ∧ GT S x := by
  simp only [GT, GTs] at g
  exact ⟨g.2.1 (by omega), g.2.2.1⟩
theorem ok_has_word : ∀ ts S R, sp_has_word ts S R → w_has_word { nx := fun _ S' => R .non S', rt := R } (startT n_has_word ts) S := by
  rintro ts S R ⟨t, e, rfl, g, q⟩
  have h1 := gt_isa g
  have h2 := gt_ty g
  simp only [w_has_word, n_has_word, startT, List.map_cons, List.map_nil, List.cons_append, List.nil_append]
  cases t with
  | tup ts =>
    cases ts with
    | nil => simp [h1, h2, sRet, sIf, sSeq, sSet, sNext, sDrop, sRetN, wVar, wC, wOp, wUn, wCall, wCons, wNil, wTup, wLst, wTst, wTru, wAnd, wOr, wNot, wAndV, wOrV, wNotV, wIfE, wChain, wIsi, truT_bl, truT_non, truT_int, truT_lst, truT_tup, oLt_ii, oLe_ii, oGt_ii, oGe_ii, oSub_ii, oAdd_ii, oEq_ss, oEq_ii, oEq_bb, oNe_ss, oNe_ii, oNe_bb, oEq_l0, oNe_l0, oEq_t0, oNe_t0]; exact q
    | cons x l =>
      obtain ⟨p1, g1⟩ := gt1 g
      have i1 := gt_isa g1
      have i2 := gt_ty g1
      cases x with
      | str w =>
        have hp := lookS_int (kvs := c_PARTS) (by rfl) w
        have he := lookS_int (kvs := c_END_PARTS) (by rfl) w
        simp [h1, h2, i1, i2, oIx, seqT, atI, ixN, oLen_t, wKGet, sRet, sIf, sSeq, sSet, sNext, sDrop, sRetN, wVar, wC, wOp, wUn, wCall, wCons, wNil, wTup, wLst, wTst, wTru, wAnd, wOr, wNot, wAndV, wOrV, wNotV, wIfE, wChain, wIsi, truT_bl, truT_non, truT_int, truT_lst, truT_tup, oLt_ii, oLe_ii, oGt_ii, oGe_ii, oSub_ii, oAdd_ii, oEq_ss, oEq_ii, oEq_bb, oNe_ss, oNe_ii, oNe_bb, oEq_l0, oNe_l0, oEq_t0, oNe_t0]
        simp only [hasW] at q
        cases e with
        | true =>
          rcases he with he | ⟨n, he⟩
          · simp [he, oEq_ni] at q ⊢; exact q
          · simp [he, sRet, sIf, sSeq, sSet, sNext, sDrop, sRetN, wVar, wC, wOp, wUn, wCall, wCons, wNil, wTup, wLst, wTst, wTru, wAnd, wOr, wNot, wAndV, wOrV, wNotV, wIfE, wChain, wIsi, truT_bl, truT_non, truT_int, truT_lst, truT_tup, oLt_ii, oLe_ii, oGt_ii, oGe_ii, oSub_ii, oAdd_ii, oEq_ss, oEq_ii, oEq_bb, oNe_ss, oNe_ii, oNe_bb, oEq_l0, oNe_l0, oEq_t0, oNe_t0] at q ⊢; exact q
        | false =>
          rcases hp with he | ⟨n, he⟩
          · simp [he, oEq_ni] at q ⊢; exact q
          · simp [he, sRet, sIf, sSeq, sSet, sNext, sDrop, sRetN, wVar, wC, wOp, wUn, wCall, wCons, wNil, wTup, wLst, wTst, wTru, wAnd, wOr, wNot, wAndV, wOrV, wNotV, wIfE, wChain, wIsi, truT_bl, truT_non, truT_int, truT_lst, truT_tup, oLt_ii, oLe_ii, oGt_ii, oGe_ii, oSub_ii, oAdd_ii, oEq_ss, oEq_ii, oEq_bb, oNe_ss, oNe_ii, oNe_bb, oEq_l0, oNe_l0, oEq_t0, oNe_t0] at q ⊢; exact q
      | _ => simp [h1, h2, i1, i2, oIx, seqT, atI, ixN, oLen_t, wKGet, sRet, sIf, sSeq, sSet, sNext, sDrop, sRetN, wVar, wC, wOp, wUn, wCall, wCons, wNil, wTup, wLst, wTst, wTru, wAnd, wOr, wNot, wAndV, wOrV, wNotV, wIfE, wChain, wIsi, truT_bl, truT_non, truT_int, truT_lst, truT_tup, oLt_ii, oLe_ii, oGt_ii, oGe_ii, oSub_ii, oAdd_ii, oEq_ss, oEq_ii, oEq_bb, oNe_ss, oNe_ii, oNe_bb, oEq_l0, oNe_l0, oEq_t0, oNe_t0]; exact q
  | _ => simp_all [hasW, sRet, sIf, sSeq, sSet, sNext, sDrop, sRetN, wVar, wC, wOp, wUn, wCall, wCons, wNil, wTup, wLst, wTst, wTru, wAnd, wOr, wNot, wAndV, wOrV, wNotV, wIfE, wChain, wIsi, truT_bl, truT_non, truT_int, truT_lst, truT_tup, oLt_ii, oLe_ii, oGt_ii, oGe_ii, oSub_ii, oAdd_ii, oEq_ss, oEq_ii, oEq_bb, oNe_ss, oNe_ii, oNe_bb, oEq_l0, oNe_l0, oEq_t0, oNe_t0]
theorem ok_size_of : ∀ ts S R, sp_size_of ts S R → w_size_of { nx := fun _ S' => R .non S', rt := R } (startT n_size_of ts) S := by
  rintro ts S R ⟨c, bs, rfl, hb, hs, q⟩
  have hsl := sizeLine_eq
  simp only [w_size_of, n_size_of, startT, List.map_cons, List.map_nil, List.cons_append, List.nil_append]
  simp [sRet, sIf, sSeq, sSet, sNext, sDrop, sRetN, wVar, wC, wOp, wUn, wCall, wCons, wNil, wTup, wLst, wTst, wTru, wAnd, wOr, wNot, wAndV, wOrV, wNotV, wIfE, wChain, wIsi, truT_bl, truT_non, truT_int, truT_lst, truT_tup, oLt_ii, oLe_ii, oGt_ii, oGe_ii, oSub_ii, oAdd_ii, oEq_ss, oEq_ii, oEq_bb, oNe_ss, oNe_ii, oNe_bb, oEq_l0, oNe_l0, oEq_t0, oNe_t0]
  refine wLc_map (t := .tup bs) (ts := bs) (fun b => .int (rowsN b)) (fun R' q => ?_) rfl (by omega) (fun x hx => ?_) ?_
  · simp [oIx, seqT, atI, ixN, sRet, sIf, sSeq, sSet, sNext, sDrop, sRetN, wVar, wC, wOp, wUn, wCall, wCons, wNil, wTup, wLst, wTst, wTru, wAnd, wOr, wNot, wAndV, wOrV, wNotV, wIfE, wChain, wIsi, truT_bl, truT_non, truT_int, truT_lst, truT_tup, oLt_ii, oLe_ii, oGt_ii, oGe_ii, oSub_ii, oAdd_ii, oEq_ss, oEq_ii, oEq_bb, oNe_ss, oNe_ii, oNe_bb, oEq_l0, oNe_l0, oEq_t0, oNe_t0]; exact q
  · obtain ⟨rows, e, rfl⟩ := hs x hx
    refine ⟨_, rfl, fun R' q => ?_⟩
    simp [oLen_t, asg, asgs, wipeT, sRet, sIf, sSeq, sSet, sNext, sDrop, sRetN, wVar, wC, wOp, wUn, wCall, wCons, wNil, wTup, wLst, wTst, wTru, wAnd, wOr, wNot, wAndV, wOrV, wNotV, wIfE, wChain, wIsi, truT_bl, truT_non, truT_int, truT_lst, truT_tup, oLt_ii, oLe_ii, oGt_ii, oGe_ii, oSub_ii, oAdd_ii, oEq_ss, oEq_ii, oEq_bb, oNe_ss, oNe_ii, oNe_bb, oEq_l0, oNe_l0, oEq_t0, oNe_t0]
    exact q
  · refine ⟨_, bs.map rowsN, rfl, ?_, q⟩
    simp [asL, List.map_map, Function.comp_def]
/-! ### the letters of the kinds -/
theorem l_v : (⟨#[118]⟩ : Str) = Str.ofString "v" := by decide +kernel
theorem l_w : (⟨#[119]⟩ : Str) = Str.ofString "w" := by decide +kernel
theorem l_a : (⟨#[97]⟩ : Str) = Str.ofString "a" := by decide +kernel
theorem l_r : (⟨#[114]⟩ : Str) = Str.ofString "r" := by decide +kernel
theorem l_n : (⟨#[110]⟩ : Str) = Str.ofString "n" := by decide +kernel
theorem l_f : (⟨#[102]⟩ : Str) = Str.ofString "f" := by decide +kernel
theorem l_o : (⟨#[111]⟩ : Str) = Str.ofString "o" := by decide +kernel
theorem l_c : (⟨#[99]⟩ : Str) = Str.ofString "c" := by decide +kernel
theorem l_s : (⟨#[115]⟩ : Str) = Str.ofString "s" := by decide +kernel
theorem l_t : (⟨#[116]⟩ : Str) = Str.ofString "t" := by decide +kernel
theorem l_b : (⟨#[98]⟩ : Str) = Str.ofString "b" := by decide +kernel
theorem l_k : (⟨#[107]⟩ : Str) = Str.ofString "k" := by decide +kernel
theorem p_v {t : T} {n : Int} : partT ⟨#[118]⟩ t n = wordT t 4000 := by rw [l_v]; simp [partT, ofS_beq]
theorem p_w {t : T} {n : Int} : partT ⟨#[119]⟩ t n = (wordT t 4000 || isNon t) := by rw [l_w]; simp [partT, ofS_beq]
theorem p_a {t : T} {n : Int} : partT ⟨#[97]⟩ t n = operT t := by rw [l_a]; simp [partT, ofS_beq]
theorem p_r {t : T} {n : Int} : partT ⟨#[114]⟩ t n = (operT t || isNon t) := by rw [l_r]; simp [partT, ofS_beq]
theorem p_n {t : T} {n : Int} : partT ⟨#[110]⟩ t n = fullT t := by rw [l_n]; simp [partT, ofS_beq]
theorem p_f {t : T} {n : Int} : partT ⟨#[102]⟩ t n = fullT t := by rw [l_f]; simp [partT, ofS_beq]
theorem p_o {t : T} {n : Int} : partT ⟨#[111]⟩ t n = opsL.any fun b => isStrB t b := by rw [l_o]; simp [partT, ofS_beq]
theorem p_c {t : T} {n : Int} : partT ⟨#[99]⟩ t n = valueT t := by rw [l_c]; simp [partT, ofS_beq]
theorem p_s {t : T} {n : Int} : partT ⟨#[115]⟩ t n = opersT t := by rw [l_s]; simp [partT, ofS_beq]
theorem p_t {t : T} {n : Int} : partT ⟨#[116]⟩ t n = (opersT t && lenB t 5) := by rw [l_t]; simp [partT, ofS_beq]
theorem p_b {t : T} {n : Int} : partT ⟨#[98]⟩ t n = wordT t n := by rw [l_b]; simp [partT, ofS_beq]
theorem p_k {t : T} {n : Int} : partT ⟨#[107]⟩ t n = wordT t 65536 := by rw [l_k]; simp [partT, ofS_beq]
theorem parts_len {n : Int} : ∀ {cs : List Nat} {ts : List T}, partsT n cs ts = true → cs.length = ts.length
  | [], [], _ => rfl
  | [], _ :: _, h => by simp [partsT] at h
  | _ :: _, [], h => by simp [partsT] at h
  | c :: cs, t :: ts, h => by
    simp only [partsT, Bool.and_eq_true] at h
    simp only [List.length_cons, parts_len h.2]
theorem c_vc : (Str.ofString "vc").cps.toList = [118, 99] := by decide +kernel
theorem c_vv : (Str.ofString "vv").cps.toList = [118, 118] := by decide +kernel
theorem c_voaa : (Str.ofString "voaa").cps.toList = [118, 111, 97, 97] := by decide +kernel
theorem c_vn : (Str.ofString "vn").cps.toList = [118, 110] := by decide +kernel
theorem c_na : (Str.ofString "na").cps.toList = [110, 97] := by decide +kernel
theorem c_vna : (Str.ofString "vna").cps.toList = [118, 110, 97] := by decide +kernel
theorem c_naa : (Str.ofString "naa").cps.toList = [110, 97, 97] := by decide +kernel
theorem c_wfs : (Str.ofString "wfs").cps.toList = [119, 102, 115] := by decide +kernel
theorem c_wvt : (Str.ofString "wvt").cps.toList = [119, 118, 116] := by decide +kernel
theorem c_sa : (Str.ofString "a").cps.toList = [97] := by decide +kernel
theorem c_sb : (Str.ofString "b").cps.toList = [98] := by decide +kernel
theorem c_abb : (Str.ofString "abb").cps.toList = [97, 98, 98] := by decide +kernel
theorem c_sr : (Str.ofString "r").cps.toList = [114] := by decide +kernel
theorem c_sk : (Str.ofString "k").cps.toList = [107] := by decide +kernel
theorem word_of {w : Str} {n : Int} (h : lookS w c_PARTS = some (.int n)) : (w = "const" ∧ n = 3) ∨ (w = "copy" ∧ n = 3) ∨ (w = "op" ∧ n = 5) ∨ (w = "load" ∧ n = 3) ∨ (w = "store" ∧ n = 3) ∨ (w = "read" ∧ n = 4) ∨ (w = "write" ∧ n = 4) ∨ (w = "call" ∧ n = 4) ∨ (w = "apply" ∧ n = 4) ∨ (w = "print" ∧ n = 2) := by
  simp only [lookS, c_PARTS] at h
  repeat' (split at h; · (next e => subst e; cases h; simp))
  cases h
theorem end_of {w : Str} {n : Int} (h : lookS w c_END_PARTS = some (.int n)) : (w = "jump" ∧ n = 2) ∨ (w = "branch" ∧ n = 4) ∨ (w = "return" ∧ n = 2) ∨ (w = "halt" ∧ n = 2) := by
  simp only [lookS, c_END_PARTS] at h
  repeat' (split at h; · (next e => subst e; cases h; simp))
  cases h
theorem oIn_s2 {w a b : Str} {S : Sto} {R : Post} : oIn false (.str w) (.tup [.str a, .str b]) S R ↔ R (.bl (w == a || w == b)) S := by
  have := oIn_strs (t := .str w) (zs := [a, b]) (neg := false) (S := S) (R := R) rfl
  simpa [isStrB] using this
theorem iff_aro {xs : List T} {S : Sto} {R : Post} (h : xs.length ≤ 10000) (g : ∀ x ∈ xs, GT S x) : sp_are_operands [.tup xs] S R ↔ R (.bl (opersT (.tup xs))) S :=
  ⟨fun ⟨t, e, _, q⟩ => by cases e; exact q, fun q => ⟨_, rfl, .inl ⟨xs, rfl, h, g⟩, q⟩⟩
theorem iff_aro2 {t : T} {S : Sto} {R : Post} (g : GT S t) : sp_are_operands [t] S R ↔ R (.bl (opersT t)) S :=
  ⟨fun ⟨t, e, _, q⟩ => by cases e; exact q, fun q => ⟨_, rfl, .inr g, q⟩⟩
theorem form_of {w ks : Str} (h : lookF w formsL = some ks) : (w = "const" ∧ ks = "vc") ∨ (w = "copy" ∧ ks = "vv") ∨ (w = "op" ∧ ks = "voaa") ∨ (w = "load" ∧ ks = "vn") ∨ (w = "store" ∧ ks = "na") ∨ (w = "read" ∧ ks = "vna") ∨ (w = "write" ∧ ks = "naa") ∨ (w = "call" ∧ ks = "wfs") ∨ (w = "apply" ∧ ks = "wvt") ∨ (w = "print" ∧ ks = "a") := by
  simp only [lookF, formsL] at h
  repeat' (split at h; · (next e => subst e; cases h; simp))
  cases h
theorem ende_of {w ks : Str} (h : lookF w endsL = some ks) : (w = "jump" ∧ ks = "b") ∨ (w = "branch" ∧ ks = "abb") ∨ (w = "return" ∧ ks = "r") ∨ (w = "halt" ∧ ks = "k") := by
  simp only [lookF, endsL] at h
  repeat' (split at h; · (next e => subst e; cases h; simp))
  cases h
theorem hasW_tup {kvs : List (Str × T)} {t : T} (hi : kvs.all (fun p => match p.2 with | .int _ => true | _ => false) = true) (h : hasW kvs t = true) : ∃ w args, t = .tup (.str w :: args) ∧ lookS w kvs = some (.int ((args.length + 1 : Nat) : Int)) := by
  cases t with
  | tup ts =>
    cases ts with
    | nil => simp [hasW] at h
    | cons x args =>
      cases x with
      | str w =>
        simp only [hasW] at h
        rcases lookS_int hi w with e | ⟨n, e⟩
        · rw [e] at h; simp at h
        · rw [e] at h
          refine ⟨w, args, rfl, ?_⟩
          rw [e, eq_of_beq h]
      | _ => simp [hasW] at h
  | _ => simp [hasW] at h
theorem built_tup {fs : List (Str × Str)} {t : T} {n : Int} (h : builtT fs t n = true) : ∃ w args ks, t = .tup (.str w :: args) ∧ lookF w fs = some ks ∧ partsT n ks.cps.toList args = true := by
  cases t with
  | tup ts =>
    cases ts with
    | nil => simp [builtT] at h
    | cons x args =>
      cases x with
      | str w =>
        simp only [builtT] at h
        split at h
        · next ks e => exact ⟨w, args, ks, rfl, e, h⟩
        · cases h
      | _ => simp [builtT] at h
  | _ => simp [builtT] at h
theorem built_has {t : T} {n : Int} (h : builtT formsL t n = true) : hasW c_PARTS t = true := by
  obtain ⟨w, args, ks, rfl, e, hp⟩ := built_tup h
  have hl := parts_len hp
  rcases form_of e with ⟨rfl, rfl⟩ | ⟨rfl, rfl⟩ | ⟨rfl, rfl⟩ | ⟨rfl, rfl⟩ | ⟨rfl, rfl⟩ | ⟨rfl, rfl⟩ | ⟨rfl, rfl⟩ | ⟨rfl, rfl⟩ | ⟨rfl, rfl⟩ | ⟨rfl, rfl⟩ <;>
    simp [hasW, lookS, c_PARTS, ofS_eq, c_vc, c_vv, c_voaa, c_vn, c_na, c_vna, c_naa, c_wfs, c_wvt, c_sa] at hl ⊢ <;> omega
theorem built_end {t : T} {n : Int} (h : builtT endsL t n = true) : hasW c_END_PARTS t = true := by
  obtain ⟨w, args, ks, rfl, e, hp⟩ := built_tup h
  have hl := parts_len hp
  rcases ende_of e with ⟨rfl, rfl⟩ | ⟨rfl, rfl⟩ | ⟨rfl, rfl⟩ | ⟨rfl, rfl⟩ <;>
    simp [hasW, lookS, c_END_PARTS, ofS_eq, c_sb, c_abb, c_sr, c_sk] at hl ⊢ <;> omega
theorem len1 {l : List T} (h : ((l.length + 1 : Nat) : Int) = 2) : ∃ a, l = [a] := by
  match l, h with
  | [a], _ => exact ⟨a, rfl⟩
  | [], h => simp at h
  | _ :: _ :: _, h => simp at h; omega
theorem len2 {l : List T} (h : ((l.length + 1 : Nat) : Int) = 3) : ∃ a b, l = [a, b] := by
  match l, h with
  | [a, b], _ => exact ⟨a, b, rfl⟩
  | [], h => simp at h
  | [_], h => simp at h
  | _ :: _ :: _ :: _, h => simp at h; omega
theorem len3 {l : List T} (h : ((l.length + 1 : Nat) : Int) = 4) : ∃ a b c, l = [a, b, c] := by
  match l, h with
  | [a, b, c], _ => exact ⟨a, b, c, rfl⟩
  | [], h => simp at h
  | [_], h => simp at h
  | [_, _], h => simp at h
  | _ :: _ :: _ :: _ :: _, h => simp at h; omega
theorem len4 {l : List T} (h : ((l.length + 1 : Nat) : Int) = 5) : ∃ a b c d, l = [a, b, c, d] := by
  match l, h with
  | [a, b, c, d], _ => exact ⟨a, b, c, d, rfl⟩
  | [], h => simp at h
  | [_], h => simp at h
  | [_, _], h => simp at h
  | [_, _, _], h => simp at h
  | _ :: _ :: _ :: _ :: _ :: _, h => simp at h; omega
theorem ok_is_instruction : ∀ ts S R, sp_is_instruction ts S R → w_is_instruction { nx := fun _ S' => R .non S', rt := R } (startT n_is_instruction ts) S := by
  rintro ts S R ⟨t, rfl, g, q⟩
  rw [show startT n_is_instruction [t] = [some t, none] from rfl]
  unfold w_is_instruction
  have hsz : 0 + 1 + 1 ≤ sizeLine := by rw [sizeLine_eq]; decide
  have q : R (.bl (builtT formsL t 0)) S := q
  cases hw : hasW c_PARTS t with
  | false =>
    have hb : builtT formsL t 0 = false := by
      cases hb : builtT formsL t 0
      · rfl
      · rw [built_has hb] at hw; cases hw
    rw [hb] at q
    simp only [↓u_sRet, ↓u_sRetN, ↓u_sNext, ↓u_sBrk, ↓u_sCont, ↓u_sSeq, ↓u_sDrop, ↓u_sIf, ↓u_wNil, ↓u_wCons, ↓u_wTup, ↓u_wLst, ↓u_wTst, ↓u_wTru, ↓u_wAnd, ↓u_wOr, ↓u_wNot, ↓u_wAndV, ↓u_wOrV, ↓u_wNotV, ↓u_wIfE, ↓u_wC, ↓u_wOp, ↓u_wUn, ↓u_wCall, ↓u_wChain, ↓u_wIsi, ↓u_wPart, ↓u_wNoPart, ↓u_wSl, ↓u_slT, ↓u_slL, ↓u_wMeth, ↓u_wKGet, ↓u_wInK, ↓u_sAsg, ↓u_exbl, ↓u_exint, ↓u_exstr, ↓u_exref, ↓u_exsome, ↓u_trubl, ↓u_truint, ↓u_trunon, ↓u_trulst, ↓u_trutup, ↓oEq_ss, ↓oEq_ii, ↓oEq_bb, ↓oEq_ni, ↓oNe_ss, ↓oNe_ii, ↓oNe_bb, ↓oEq_l0, ↓oNe_l0, ↓oEq_t0, ↓oNe_t0, ↓oLt_ii, ↓oLe_ii, ↓oGt_ii, ↓oGe_ii, ↓oSub_ii, ↓oAdd_ii, ↓u_lenT, ↓u_lenL, ↓u_isnon, ↓u_ixtup0, ↓u_ixlst0, ↓u_ixtup1, ↓u_ixlst1, ↓u_ixtup2, ↓u_ixlst2, ↓u_ixtup3, ↓u_ixlst3, ↓u_ixtup4, ↓u_ixlst4, ↓u_ixtup5, ↓u_ixlst5, ↓u_v0, ↓u_s0, ↓u_v1, ↓u_s1, ↓u_v2, ↓u_s2, ↓u_v3, ↓u_s3, ↓u_v4, ↓u_s4, ↓u_v5, ↓u_s5, ↓u_v6, ↓u_s6, ↓u_v7, ↓u_s7, ↓u_v8, ↓u_s8, ↓u_v9, ↓u_s9, ↓u_v10, ↓u_s10, ↓u_v11, ↓u_s11, ↓u_v12, ↓u_s12, ↓u_v13, ↓u_s13, ↓u_v14, ↓u_s14, ↓u_v15, ↓u_s15, ↓u_v16, ↓u_s16, ↓u_v17, ↓u_s17, ↓u_v18, ↓u_s18, ↓u_v19, ↓u_s19, if_true, if_false, Bool.false_eq_true, Bool.not_true, Bool.not_false, Bool.true_and, Bool.false_and, Bool.and_true, Bool.and_false, Bool.or_true, Bool.or_false, Bool.true_or, Bool.false_or, true_and, and_true, Option.isSome_some, List.length_cons, List.length_nil, ofS_beq, iff_hasw, g, hw]
    exact q
  | true =>
    obtain ⟨w, args, rfl, hl⟩ := hasW_tup (by rfl) hw
    have gm : ∀ x ∈ args, GT S x := fun x hx => gt_mem g (List.mem_cons_of_mem _ hx)
    rcases word_of hl with ⟨hwd, e⟩ | ⟨hwd, e⟩ | ⟨hwd, e⟩ | ⟨hwd, e⟩ | ⟨hwd, e⟩ | ⟨hwd, e⟩ | ⟨hwd, e⟩ | ⟨hwd, e⟩ | ⟨hwd, e⟩ | ⟨hwd, e⟩
    · subst hwd
      obtain ⟨a, b, rfl⟩ := len2 e
      have ga := gm a (by simp)
      have gb := gm b (by simp)
      simp [builtT, lookF, formsL, ofS_eq, partsT, p_v, p_o, p_a, p_c, p_n, p_w, p_f, p_s, p_t, c_vc, c_vv, c_voaa, c_vn, c_na, c_vna, c_naa, c_wfs, c_wvt, c_sa] at q
      simp only [↓u_sRet, ↓u_sRetN, ↓u_sNext, ↓u_sBrk, ↓u_sCont, ↓u_sSeq, ↓u_sDrop, ↓u_sIf, ↓u_wNil, ↓u_wCons, ↓u_wTup, ↓u_wLst, ↓u_wTst, ↓u_wTru, ↓u_wAnd, ↓u_wOr, ↓u_wNot, ↓u_wAndV, ↓u_wOrV, ↓u_wNotV, ↓u_wIfE, ↓u_wC, ↓u_wOp, ↓u_wUn, ↓u_wCall, ↓u_wChain, ↓u_wIsi, ↓u_wPart, ↓u_wNoPart, ↓u_wSl, ↓u_slT, ↓u_slL, ↓u_wMeth, ↓u_wKGet, ↓u_wInK, ↓u_sAsg, ↓u_exbl, ↓u_exint, ↓u_exstr, ↓u_exref, ↓u_exsome, ↓u_trubl, ↓u_truint, ↓u_trunon, ↓u_trulst, ↓u_trutup, ↓oEq_ss, ↓oEq_ii, ↓oEq_bb, ↓oEq_ni, ↓oNe_ss, ↓oNe_ii, ↓oNe_bb, ↓oEq_l0, ↓oNe_l0, ↓oEq_t0, ↓oNe_t0, ↓oLt_ii, ↓oLe_ii, ↓oGt_ii, ↓oGe_ii, ↓oSub_ii, ↓oAdd_ii, ↓u_lenT, ↓u_lenL, ↓u_isnon, ↓u_ixtup0, ↓u_ixlst0, ↓u_ixtup1, ↓u_ixlst1, ↓u_ixtup2, ↓u_ixlst2, ↓u_ixtup3, ↓u_ixlst3, ↓u_ixtup4, ↓u_ixlst4, ↓u_ixtup5, ↓u_ixlst5, ↓u_v0, ↓u_s0, ↓u_v1, ↓u_s1, ↓u_v2, ↓u_s2, ↓u_v3, ↓u_s3, ↓u_v4, ↓u_s4, ↓u_v5, ↓u_s5, ↓u_v6, ↓u_s6, ↓u_v7, ↓u_s7, ↓u_v8, ↓u_s8, ↓u_v9, ↓u_s9, ↓u_v10, ↓u_s10, ↓u_v11, ↓u_s11, ↓u_v12, ↓u_s12, ↓u_v13, ↓u_s13, ↓u_v14, ↓u_s14, ↓u_v15, ↓u_s15, ↓u_v16, ↓u_s16, ↓u_v17, ↓u_s17, ↓u_v18, ↓u_s18, ↓u_v19, ↓u_s19, if_true, if_false, Bool.false_eq_true, Bool.not_true, Bool.not_false, Bool.true_and, Bool.false_and, Bool.and_true, Bool.and_false, Bool.or_true, Bool.or_false, Bool.true_or, Bool.false_or, true_and, and_true, Option.isSome_some, List.length_cons, List.length_nil, ofS_beq, String.reduceBEq, iff_hasw, g, hw, sp_is_variable, sp_is_value, sp_is_operand, sp_is_full_name, iff_b1, oIn_s2, hsz, ga, gb]
      cases h0 : wordT a 4000 <;> simp_all [opersT]
    · subst hwd
      obtain ⟨a, b, rfl⟩ := len2 e
      have ga := gm a (by simp)
      have gb := gm b (by simp)
      simp [builtT, lookF, formsL, ofS_eq, partsT, p_v, p_o, p_a, p_c, p_n, p_w, p_f, p_s, p_t, c_vc, c_vv, c_voaa, c_vn, c_na, c_vna, c_naa, c_wfs, c_wvt, c_sa] at q
      simp only [↓u_sRet, ↓u_sRetN, ↓u_sNext, ↓u_sBrk, ↓u_sCont, ↓u_sSeq, ↓u_sDrop, ↓u_sIf, ↓u_wNil, ↓u_wCons, ↓u_wTup, ↓u_wLst, ↓u_wTst, ↓u_wTru, ↓u_wAnd, ↓u_wOr, ↓u_wNot, ↓u_wAndV, ↓u_wOrV, ↓u_wNotV, ↓u_wIfE, ↓u_wC, ↓u_wOp, ↓u_wUn, ↓u_wCall, ↓u_wChain, ↓u_wIsi, ↓u_wPart, ↓u_wNoPart, ↓u_wSl, ↓u_slT, ↓u_slL, ↓u_wMeth, ↓u_wKGet, ↓u_wInK, ↓u_sAsg, ↓u_exbl, ↓u_exint, ↓u_exstr, ↓u_exref, ↓u_exsome, ↓u_trubl, ↓u_truint, ↓u_trunon, ↓u_trulst, ↓u_trutup, ↓oEq_ss, ↓oEq_ii, ↓oEq_bb, ↓oEq_ni, ↓oNe_ss, ↓oNe_ii, ↓oNe_bb, ↓oEq_l0, ↓oNe_l0, ↓oEq_t0, ↓oNe_t0, ↓oLt_ii, ↓oLe_ii, ↓oGt_ii, ↓oGe_ii, ↓oSub_ii, ↓oAdd_ii, ↓u_lenT, ↓u_lenL, ↓u_isnon, ↓u_ixtup0, ↓u_ixlst0, ↓u_ixtup1, ↓u_ixlst1, ↓u_ixtup2, ↓u_ixlst2, ↓u_ixtup3, ↓u_ixlst3, ↓u_ixtup4, ↓u_ixlst4, ↓u_ixtup5, ↓u_ixlst5, ↓u_v0, ↓u_s0, ↓u_v1, ↓u_s1, ↓u_v2, ↓u_s2, ↓u_v3, ↓u_s3, ↓u_v4, ↓u_s4, ↓u_v5, ↓u_s5, ↓u_v6, ↓u_s6, ↓u_v7, ↓u_s7, ↓u_v8, ↓u_s8, ↓u_v9, ↓u_s9, ↓u_v10, ↓u_s10, ↓u_v11, ↓u_s11, ↓u_v12, ↓u_s12, ↓u_v13, ↓u_s13, ↓u_v14, ↓u_s14, ↓u_v15, ↓u_s15, ↓u_v16, ↓u_s16, ↓u_v17, ↓u_s17, ↓u_v18, ↓u_s18, ↓u_v19, ↓u_s19, if_true, if_false, Bool.false_eq_true, Bool.not_true, Bool.not_false, Bool.true_and, Bool.false_and, Bool.and_true, Bool.and_false, Bool.or_true, Bool.or_false, Bool.true_or, Bool.false_or, true_and, and_true, Option.isSome_some, List.length_cons, List.length_nil, ofS_beq, String.reduceBEq, iff_hasw, g, hw, sp_is_variable, sp_is_value, sp_is_operand, sp_is_full_name, iff_b1, oIn_s2, hsz, ga, gb]
      cases h0 : wordT a 4000 <;> simp_all [opersT]
    · subst hwd
      obtain ⟨a, b, c, d, rfl⟩ := len4 e
      have ga := gm a (by simp)
      have gb := gm b (by simp)
      have gc := gm c (by simp)
      have gd := gm d (by simp)
      have ecut : cutT [T.str (Str.ofString "op"), a, b, c, d] (some 3) none = [c, d] := by rfl
      have pb : plT b = true := gt_pl g (i := 2) rfl (by omega)
      have ib := (gt_isa gb).2.2.1
      have jb := gt_ty gb
      have hin : inO b c_OPS = some (opsL.any fun z => isStrB b z) := inO_strs (t := b) pb opsL
      have hdp : dpL c_OPS ≤ 60 := by decide
      simp [builtT, lookF, formsL, ofS_eq, partsT, p_v, p_o, p_a, p_c, p_n, p_w, p_f, p_s, p_t, c_vc, c_vv, c_voaa, c_vn, c_na, c_vna, c_naa, c_wfs, c_wvt, c_sa] at q
      simp only [↓u_sRet, ↓u_sRetN, ↓u_sNext, ↓u_sBrk, ↓u_sCont, ↓u_sSeq, ↓u_sDrop, ↓u_sIf, ↓u_wNil, ↓u_wCons, ↓u_wTup, ↓u_wLst, ↓u_wTst, ↓u_wTru, ↓u_wAnd, ↓u_wOr, ↓u_wNot, ↓u_wAndV, ↓u_wOrV, ↓u_wNotV, ↓u_wIfE, ↓u_wC, ↓u_wOp, ↓u_wUn, ↓u_wCall, ↓u_wChain, ↓u_wIsi, ↓u_wPart, ↓u_wNoPart, ↓u_wSl, ↓u_slT, ↓u_slL, ↓u_wMeth, ↓u_wKGet, ↓u_wInK, ↓u_sAsg, ↓u_exbl, ↓u_exint, ↓u_exstr, ↓u_exref, ↓u_exsome, ↓u_trubl, ↓u_truint, ↓u_trunon, ↓u_trulst, ↓u_trutup, ↓oEq_ss, ↓oEq_ii, ↓oEq_bb, ↓oEq_ni, ↓oNe_ss, ↓oNe_ii, ↓oNe_bb, ↓oEq_l0, ↓oNe_l0, ↓oEq_t0, ↓oNe_t0, ↓oLt_ii, ↓oLe_ii, ↓oGt_ii, ↓oGe_ii, ↓oSub_ii, ↓oAdd_ii, ↓u_lenT, ↓u_lenL, ↓u_isnon, ↓u_ixtup0, ↓u_ixlst0, ↓u_ixtup1, ↓u_ixlst1, ↓u_ixtup2, ↓u_ixlst2, ↓u_ixtup3, ↓u_ixlst3, ↓u_ixtup4, ↓u_ixlst4, ↓u_ixtup5, ↓u_ixlst5, ↓u_v0, ↓u_s0, ↓u_v1, ↓u_s1, ↓u_v2, ↓u_s2, ↓u_v3, ↓u_s3, ↓u_v4, ↓u_s4, ↓u_v5, ↓u_s5, ↓u_v6, ↓u_s6, ↓u_v7, ↓u_s7, ↓u_v8, ↓u_s8, ↓u_v9, ↓u_s9, ↓u_v10, ↓u_s10, ↓u_v11, ↓u_s11, ↓u_v12, ↓u_s12, ↓u_v13, ↓u_s13, ↓u_v14, ↓u_s14, ↓u_v15, ↓u_s15, ↓u_v16, ↓u_s16, ↓u_v17, ↓u_s17, ↓u_v18, ↓u_s18, ↓u_v19, ↓u_s19, if_true, if_false, Bool.false_eq_true, Bool.not_true, Bool.not_false, Bool.true_and, Bool.false_and, Bool.and_true, Bool.and_false, Bool.or_true, Bool.or_false, Bool.true_or, Bool.false_or, true_and, and_true, Option.isSome_some, List.length_cons, List.length_nil, ofS_beq, String.reduceBEq, iff_hasw, g, hw, sp_is_variable, sp_is_value, sp_is_operand, sp_is_full_name, iff_b1, oIn_s2, hsz, ga, gb, gc, gd, ecut, iff_aro (xs := [c, d]) (S := S) (by simp) (by simp [gc, gd]), jb, hin, hdp]
      have hB : isA "str" S b = false → (opsL.any fun z => isStrB b z) = false := by
        intro hb
        rw [ib] at hb
        cases b <;> simp at hb <;> simp [isStrB]
      clear ib hin jb
      generalize isA "str" S b = sb at *
      generalize (opsL.any fun z => isStrB b z) = B at *
      cases h0 : wordT a 4000 <;> cases sb <;> cases B <;> simp_all [opersT]
    · subst hwd
      obtain ⟨a, b, rfl⟩ := len2 e
      have ga := gm a (by simp)
      have gb := gm b (by simp)
      have ecut : cutT [T.str (Str.ofString "load"), a, b] (some 3) none = [] := by rfl
      simp [builtT, lookF, formsL, ofS_eq, partsT, p_v, p_o, p_a, p_c, p_n, p_w, p_f, p_s, p_t, c_vc, c_vv, c_voaa, c_vn, c_na, c_vna, c_naa, c_wfs, c_wvt, c_sa] at q
      simp only [↓u_sRet, ↓u_sRetN, ↓u_sNext, ↓u_sBrk, ↓u_sCont, ↓u_sSeq, ↓u_sDrop, ↓u_sIf, ↓u_wNil, ↓u_wCons, ↓u_wTup, ↓u_wLst, ↓u_wTst, ↓u_wTru, ↓u_wAnd, ↓u_wOr, ↓u_wNot, ↓u_wAndV, ↓u_wOrV, ↓u_wNotV, ↓u_wIfE, ↓u_wC, ↓u_wOp, ↓u_wUn, ↓u_wCall, ↓u_wChain, ↓u_wIsi, ↓u_wPart, ↓u_wNoPart, ↓u_wSl, ↓u_slT, ↓u_slL, ↓u_wMeth, ↓u_wKGet, ↓u_wInK, ↓u_sAsg, ↓u_exbl, ↓u_exint, ↓u_exstr, ↓u_exref, ↓u_exsome, ↓u_trubl, ↓u_truint, ↓u_trunon, ↓u_trulst, ↓u_trutup, ↓oEq_ss, ↓oEq_ii, ↓oEq_bb, ↓oEq_ni, ↓oNe_ss, ↓oNe_ii, ↓oNe_bb, ↓oEq_l0, ↓oNe_l0, ↓oEq_t0, ↓oNe_t0, ↓oLt_ii, ↓oLe_ii, ↓oGt_ii, ↓oGe_ii, ↓oSub_ii, ↓oAdd_ii, ↓u_lenT, ↓u_lenL, ↓u_isnon, ↓u_ixtup0, ↓u_ixlst0, ↓u_ixtup1, ↓u_ixlst1, ↓u_ixtup2, ↓u_ixlst2, ↓u_ixtup3, ↓u_ixlst3, ↓u_ixtup4, ↓u_ixlst4, ↓u_ixtup5, ↓u_ixlst5, ↓u_v0, ↓u_s0, ↓u_v1, ↓u_s1, ↓u_v2, ↓u_s2, ↓u_v3, ↓u_s3, ↓u_v4, ↓u_s4, ↓u_v5, ↓u_s5, ↓u_v6, ↓u_s6, ↓u_v7, ↓u_s7, ↓u_v8, ↓u_s8, ↓u_v9, ↓u_s9, ↓u_v10, ↓u_s10, ↓u_v11, ↓u_s11, ↓u_v12, ↓u_s12, ↓u_v13, ↓u_s13, ↓u_v14, ↓u_s14, ↓u_v15, ↓u_s15, ↓u_v16, ↓u_s16, ↓u_v17, ↓u_s17, ↓u_v18, ↓u_s18, ↓u_v19, ↓u_s19, if_true, if_false, Bool.false_eq_true, Bool.not_true, Bool.not_false, Bool.true_and, Bool.false_and, Bool.and_true, Bool.and_false, Bool.or_true, Bool.or_false, Bool.true_or, Bool.false_or, true_and, and_true, Option.isSome_some, List.length_cons, List.length_nil, ofS_beq, String.reduceBEq, iff_hasw, g, hw, sp_is_variable, sp_is_value, sp_is_operand, sp_is_full_name, iff_b1, oIn_s2, hsz, ga, gb, ecut, iff_aro (xs := []) (S := S) (by simp) (by simp [])]
      cases h0 : wordT a 4000 <;> cases h1 : fullT b <;> simp_all [opersT]
    · subst hwd
      obtain ⟨a, b, rfl⟩ := len2 e
      have ga := gm a (by simp)
      have gb := gm b (by simp)
      have ecut : cutT [T.str (Str.ofString "store"), a, b] (some 2) none = [b] := by rfl
      simp [builtT, lookF, formsL, ofS_eq, partsT, p_v, p_o, p_a, p_c, p_n, p_w, p_f, p_s, p_t, c_vc, c_vv, c_voaa, c_vn, c_na, c_vna, c_naa, c_wfs, c_wvt, c_sa] at q
      simp only [↓u_sRet, ↓u_sRetN, ↓u_sNext, ↓u_sBrk, ↓u_sCont, ↓u_sSeq, ↓u_sDrop, ↓u_sIf, ↓u_wNil, ↓u_wCons, ↓u_wTup, ↓u_wLst, ↓u_wTst, ↓u_wTru, ↓u_wAnd, ↓u_wOr, ↓u_wNot, ↓u_wAndV, ↓u_wOrV, ↓u_wNotV, ↓u_wIfE, ↓u_wC, ↓u_wOp, ↓u_wUn, ↓u_wCall, ↓u_wChain, ↓u_wIsi, ↓u_wPart, ↓u_wNoPart, ↓u_wSl, ↓u_slT, ↓u_slL, ↓u_wMeth, ↓u_wKGet, ↓u_wInK, ↓u_sAsg, ↓u_exbl, ↓u_exint, ↓u_exstr, ↓u_exref, ↓u_exsome, ↓u_trubl, ↓u_truint, ↓u_trunon, ↓u_trulst, ↓u_trutup, ↓oEq_ss, ↓oEq_ii, ↓oEq_bb, ↓oEq_ni, ↓oNe_ss, ↓oNe_ii, ↓oNe_bb, ↓oEq_l0, ↓oNe_l0, ↓oEq_t0, ↓oNe_t0, ↓oLt_ii, ↓oLe_ii, ↓oGt_ii, ↓oGe_ii, ↓oSub_ii, ↓oAdd_ii, ↓u_lenT, ↓u_lenL, ↓u_isnon, ↓u_ixtup0, ↓u_ixlst0, ↓u_ixtup1, ↓u_ixlst1, ↓u_ixtup2, ↓u_ixlst2, ↓u_ixtup3, ↓u_ixlst3, ↓u_ixtup4, ↓u_ixlst4, ↓u_ixtup5, ↓u_ixlst5, ↓u_v0, ↓u_s0, ↓u_v1, ↓u_s1, ↓u_v2, ↓u_s2, ↓u_v3, ↓u_s3, ↓u_v4, ↓u_s4, ↓u_v5, ↓u_s5, ↓u_v6, ↓u_s6, ↓u_v7, ↓u_s7, ↓u_v8, ↓u_s8, ↓u_v9, ↓u_s9, ↓u_v10, ↓u_s10, ↓u_v11, ↓u_s11, ↓u_v12, ↓u_s12, ↓u_v13, ↓u_s13, ↓u_v14, ↓u_s14, ↓u_v15, ↓u_s15, ↓u_v16, ↓u_s16, ↓u_v17, ↓u_s17, ↓u_v18, ↓u_s18, ↓u_v19, ↓u_s19, if_true, if_false, Bool.false_eq_true, Bool.not_true, Bool.not_false, Bool.true_and, Bool.false_and, Bool.and_true, Bool.and_false, Bool.or_true, Bool.or_false, Bool.true_or, Bool.false_or, true_and, and_true, Option.isSome_some, List.length_cons, List.length_nil, ofS_beq, String.reduceBEq, iff_hasw, g, hw, sp_is_variable, sp_is_value, sp_is_operand, sp_is_full_name, iff_b1, oIn_s2, hsz, ga, gb, ecut, iff_aro (xs := [b]) (S := S) (by simp) (by simp [gb])]
      cases h0 : fullT a <;> simp_all [opersT]
    · subst hwd
      obtain ⟨a, b, c, rfl⟩ := len3 e
      have ga := gm a (by simp)
      have gb := gm b (by simp)
      have gc := gm c (by simp)
      have ecut : cutT [T.str (Str.ofString "read"), a, b, c] (some 3) none = [c] := by rfl
      simp [builtT, lookF, formsL, ofS_eq, partsT, p_v, p_o, p_a, p_c, p_n, p_w, p_f, p_s, p_t, c_vc, c_vv, c_voaa, c_vn, c_na, c_vna, c_naa, c_wfs, c_wvt, c_sa] at q
      simp only [↓u_sRet, ↓u_sRetN, ↓u_sNext, ↓u_sBrk, ↓u_sCont, ↓u_sSeq, ↓u_sDrop, ↓u_sIf, ↓u_wNil, ↓u_wCons, ↓u_wTup, ↓u_wLst, ↓u_wTst, ↓u_wTru, ↓u_wAnd, ↓u_wOr, ↓u_wNot, ↓u_wAndV, ↓u_wOrV, ↓u_wNotV, ↓u_wIfE, ↓u_wC, ↓u_wOp, ↓u_wUn, ↓u_wCall, ↓u_wChain, ↓u_wIsi, ↓u_wPart, ↓u_wNoPart, ↓u_wSl, ↓u_slT, ↓u_slL, ↓u_wMeth, ↓u_wKGet, ↓u_wInK, ↓u_sAsg, ↓u_exbl, ↓u_exint, ↓u_exstr, ↓u_exref, ↓u_exsome, ↓u_trubl, ↓u_truint, ↓u_trunon, ↓u_trulst, ↓u_trutup, ↓oEq_ss, ↓oEq_ii, ↓oEq_bb, ↓oEq_ni, ↓oNe_ss, ↓oNe_ii, ↓oNe_bb, ↓oEq_l0, ↓oNe_l0, ↓oEq_t0, ↓oNe_t0, ↓oLt_ii, ↓oLe_ii, ↓oGt_ii, ↓oGe_ii, ↓oSub_ii, ↓oAdd_ii, ↓u_lenT, ↓u_lenL, ↓u_isnon, ↓u_ixtup0, ↓u_ixlst0, ↓u_ixtup1, ↓u_ixlst1, ↓u_ixtup2, ↓u_ixlst2, ↓u_ixtup3, ↓u_ixlst3, ↓u_ixtup4, ↓u_ixlst4, ↓u_ixtup5, ↓u_ixlst5, ↓u_v0, ↓u_s0, ↓u_v1, ↓u_s1, ↓u_v2, ↓u_s2, ↓u_v3, ↓u_s3, ↓u_v4, ↓u_s4, ↓u_v5, ↓u_s5, ↓u_v6, ↓u_s6, ↓u_v7, ↓u_s7, ↓u_v8, ↓u_s8, ↓u_v9, ↓u_s9, ↓u_v10, ↓u_s10, ↓u_v11, ↓u_s11, ↓u_v12, ↓u_s12, ↓u_v13, ↓u_s13, ↓u_v14, ↓u_s14, ↓u_v15, ↓u_s15, ↓u_v16, ↓u_s16, ↓u_v17, ↓u_s17, ↓u_v18, ↓u_s18, ↓u_v19, ↓u_s19, if_true, if_false, Bool.false_eq_true, Bool.not_true, Bool.not_false, Bool.true_and, Bool.false_and, Bool.and_true, Bool.and_false, Bool.or_true, Bool.or_false, Bool.true_or, Bool.false_or, true_and, and_true, Option.isSome_some, List.length_cons, List.length_nil, ofS_beq, String.reduceBEq, iff_hasw, g, hw, sp_is_variable, sp_is_value, sp_is_operand, sp_is_full_name, iff_b1, oIn_s2, hsz, ga, gb, gc, ecut, iff_aro (xs := [c]) (S := S) (by simp) (by simp [gc])]
      cases h0 : wordT a 4000 <;> cases h1 : fullT b <;> simp_all [opersT]
    · subst hwd
      obtain ⟨a, b, c, rfl⟩ := len3 e
      have ga := gm a (by simp)
      have gb := gm b (by simp)
      have gc := gm c (by simp)
      have ecut : cutT [T.str (Str.ofString "write"), a, b, c] (some 2) none = [b, c] := by rfl
      simp [builtT, lookF, formsL, ofS_eq, partsT, p_v, p_o, p_a, p_c, p_n, p_w, p_f, p_s, p_t, c_vc, c_vv, c_voaa, c_vn, c_na, c_vna, c_naa, c_wfs, c_wvt, c_sa] at q
      simp only [↓u_sRet, ↓u_sRetN, ↓u_sNext, ↓u_sBrk, ↓u_sCont, ↓u_sSeq, ↓u_sDrop, ↓u_sIf, ↓u_wNil, ↓u_wCons, ↓u_wTup, ↓u_wLst, ↓u_wTst, ↓u_wTru, ↓u_wAnd, ↓u_wOr, ↓u_wNot, ↓u_wAndV, ↓u_wOrV, ↓u_wNotV, ↓u_wIfE, ↓u_wC, ↓u_wOp, ↓u_wUn, ↓u_wCall, ↓u_wChain, ↓u_wIsi, ↓u_wPart, ↓u_wNoPart, ↓u_wSl, ↓u_slT, ↓u_slL, ↓u_wMeth, ↓u_wKGet, ↓u_wInK, ↓u_sAsg, ↓u_exbl, ↓u_exint, ↓u_exstr, ↓u_exref, ↓u_exsome, ↓u_trubl, ↓u_truint, ↓u_trunon, ↓u_trulst, ↓u_trutup, ↓oEq_ss, ↓oEq_ii, ↓oEq_bb, ↓oEq_ni, ↓oNe_ss, ↓oNe_ii, ↓oNe_bb, ↓oEq_l0, ↓oNe_l0, ↓oEq_t0, ↓oNe_t0, ↓oLt_ii, ↓oLe_ii, ↓oGt_ii, ↓oGe_ii, ↓oSub_ii, ↓oAdd_ii, ↓u_lenT, ↓u_lenL, ↓u_isnon, ↓u_ixtup0, ↓u_ixlst0, ↓u_ixtup1, ↓u_ixlst1, ↓u_ixtup2, ↓u_ixlst2, ↓u_ixtup3, ↓u_ixlst3, ↓u_ixtup4, ↓u_ixlst4, ↓u_ixtup5, ↓u_ixlst5, ↓u_v0, ↓u_s0, ↓u_v1, ↓u_s1, ↓u_v2, ↓u_s2, ↓u_v3, ↓u_s3, ↓u_v4, ↓u_s4, ↓u_v5, ↓u_s5, ↓u_v6, ↓u_s6, ↓u_v7, ↓u_s7, ↓u_v8, ↓u_s8, ↓u_v9, ↓u_s9, ↓u_v10, ↓u_s10, ↓u_v11, ↓u_s11, ↓u_v12, ↓u_s12, ↓u_v13, ↓u_s13, ↓u_v14, ↓u_s14, ↓u_v15, ↓u_s15, ↓u_v16, ↓u_s16, ↓u_v17, ↓u_s17, ↓u_v18, ↓u_s18, ↓u_v19, ↓u_s19, if_true, if_false, Bool.false_eq_true, Bool.not_true, Bool.not_false, Bool.true_and, Bool.false_and, Bool.and_true, Bool.and_false, Bool.or_true, Bool.or_false, Bool.true_or, Bool.false_or, true_and, and_true, Option.isSome_some, List.length_cons, List.length_nil, ofS_beq, String.reduceBEq, iff_hasw, g, hw, sp_is_variable, sp_is_value, sp_is_operand, sp_is_full_name, iff_b1, oIn_s2, hsz, ga, gb, gc, ecut, iff_aro (xs := [b, c]) (S := S) (by simp) (by simp [gb, gc])]
      cases h0 : fullT a <;> simp_all [opersT]
    · subst hwd
      obtain ⟨a, b, c, rfl⟩ := len3 e
      have ga := gm a (by simp)
      have gb := gm b (by simp)
      have gc := gm c (by simp)
      simp [builtT, lookF, formsL, ofS_eq, partsT, p_v, p_o, p_a, p_c, p_n, p_w, p_f, p_s, p_t, c_vc, c_vv, c_voaa, c_vn, c_na, c_vna, c_naa, c_wfs, c_wvt, c_sa] at q
      simp only [↓u_sRet, ↓u_sRetN, ↓u_sNext, ↓u_sBrk, ↓u_sCont, ↓u_sSeq, ↓u_sDrop, ↓u_sIf, ↓u_wNil, ↓u_wCons, ↓u_wTup, ↓u_wLst, ↓u_wTst, ↓u_wTru, ↓u_wAnd, ↓u_wOr, ↓u_wNot, ↓u_wAndV, ↓u_wOrV, ↓u_wNotV, ↓u_wIfE, ↓u_wC, ↓u_wOp, ↓u_wUn, ↓u_wCall, ↓u_wChain, ↓u_wIsi, ↓u_wPart, ↓u_wNoPart, ↓u_wSl, ↓u_slT, ↓u_slL, ↓u_wMeth, ↓u_wKGet, ↓u_wInK, ↓u_sAsg, ↓u_exbl, ↓u_exint, ↓u_exstr, ↓u_exref, ↓u_exsome, ↓u_trubl, ↓u_truint, ↓u_trunon, ↓u_trulst, ↓u_trutup, ↓oEq_ss, ↓oEq_ii, ↓oEq_bb, ↓oEq_ni, ↓oNe_ss, ↓oNe_ii, ↓oNe_bb, ↓oEq_l0, ↓oNe_l0, ↓oEq_t0, ↓oNe_t0, ↓oLt_ii, ↓oLe_ii, ↓oGt_ii, ↓oGe_ii, ↓oSub_ii, ↓oAdd_ii, ↓u_lenT, ↓u_lenL, ↓u_isnon, ↓u_ixtup0, ↓u_ixlst0, ↓u_ixtup1, ↓u_ixlst1, ↓u_ixtup2, ↓u_ixlst2, ↓u_ixtup3, ↓u_ixlst3, ↓u_ixtup4, ↓u_ixlst4, ↓u_ixtup5, ↓u_ixlst5, ↓u_v0, ↓u_s0, ↓u_v1, ↓u_s1, ↓u_v2, ↓u_s2, ↓u_v3, ↓u_s3, ↓u_v4, ↓u_s4, ↓u_v5, ↓u_s5, ↓u_v6, ↓u_s6, ↓u_v7, ↓u_s7, ↓u_v8, ↓u_s8, ↓u_v9, ↓u_s9, ↓u_v10, ↓u_s10, ↓u_v11, ↓u_s11, ↓u_v12, ↓u_s12, ↓u_v13, ↓u_s13, ↓u_v14, ↓u_s14, ↓u_v15, ↓u_s15, ↓u_v16, ↓u_s16, ↓u_v17, ↓u_s17, ↓u_v18, ↓u_s18, ↓u_v19, ↓u_s19, if_true, if_false, Bool.false_eq_true, Bool.not_true, Bool.not_false, Bool.true_and, Bool.false_and, Bool.and_true, Bool.and_false, Bool.or_true, Bool.or_false, Bool.true_or, Bool.false_or, true_and, and_true, Option.isSome_some, List.length_cons, List.length_nil, ofS_beq, String.reduceBEq, iff_hasw, g, hw, sp_is_variable, sp_is_value, sp_is_operand, sp_is_full_name, iff_b1, oIn_s2, hsz, ga, gb, gc, iff_aro2 gc]
      cases h0 : isNon a <;> cases h1 : wordT a 4000 <;> cases h2 : fullT b <;> cases h3 : opersT c <;> simp_all
    · subst hwd
      obtain ⟨a, b, c, rfl⟩ := len3 e
      have ga := gm a (by simp)
      have gb := gm b (by simp)
      have gc := gm c (by simp)
      simp [builtT, lookF, formsL, ofS_eq, partsT, p_v, p_o, p_a, p_c, p_n, p_w, p_f, p_s, p_t, c_vc, c_vv, c_voaa, c_vn, c_na, c_vna, c_naa, c_wfs, c_wvt, c_sa] at q
      simp only [↓u_sRet, ↓u_sRetN, ↓u_sNext, ↓u_sBrk, ↓u_sCont, ↓u_sSeq, ↓u_sDrop, ↓u_sIf, ↓u_wNil, ↓u_wCons, ↓u_wTup, ↓u_wLst, ↓u_wTst, ↓u_wTru, ↓u_wAnd, ↓u_wOr, ↓u_wNot, ↓u_wAndV, ↓u_wOrV, ↓u_wNotV, ↓u_wIfE, ↓u_wC, ↓u_wOp, ↓u_wUn, ↓u_wCall, ↓u_wChain, ↓u_wIsi, ↓u_wPart, ↓u_wNoPart, ↓u_wSl, ↓u_slT, ↓u_slL, ↓u_wMeth, ↓u_wKGet, ↓u_wInK, ↓u_sAsg, ↓u_exbl, ↓u_exint, ↓u_exstr, ↓u_exref, ↓u_exsome, ↓u_trubl, ↓u_truint, ↓u_trunon, ↓u_trulst, ↓u_trutup, ↓oEq_ss, ↓oEq_ii, ↓oEq_bb, ↓oEq_ni, ↓oNe_ss, ↓oNe_ii, ↓oNe_bb, ↓oEq_l0, ↓oNe_l0, ↓oEq_t0, ↓oNe_t0, ↓oLt_ii, ↓oLe_ii, ↓oGt_ii, ↓oGe_ii, ↓oSub_ii, ↓oAdd_ii, ↓u_lenT, ↓u_lenL, ↓u_isnon, ↓u_ixtup0, ↓u_ixlst0, ↓u_ixtup1, ↓u_ixlst1, ↓u_ixtup2, ↓u_ixlst2, ↓u_ixtup3, ↓u_ixlst3, ↓u_ixtup4, ↓u_ixlst4, ↓u_ixtup5, ↓u_ixlst5, ↓u_v0, ↓u_s0, ↓u_v1, ↓u_s1, ↓u_v2, ↓u_s2, ↓u_v3, ↓u_s3, ↓u_v4, ↓u_s4, ↓u_v5, ↓u_s5, ↓u_v6, ↓u_s6, ↓u_v7, ↓u_s7, ↓u_v8, ↓u_s8, ↓u_v9, ↓u_s9, ↓u_v10, ↓u_s10, ↓u_v11, ↓u_s11, ↓u_v12, ↓u_s12, ↓u_v13, ↓u_s13, ↓u_v14, ↓u_s14, ↓u_v15, ↓u_s15, ↓u_v16, ↓u_s16, ↓u_v17, ↓u_s17, ↓u_v18, ↓u_s18, ↓u_v19, ↓u_s19, if_true, if_false, Bool.false_eq_true, Bool.not_true, Bool.not_false, Bool.true_and, Bool.false_and, Bool.and_true, Bool.and_false, Bool.or_true, Bool.or_false, Bool.true_or, Bool.false_or, true_and, and_true, Option.isSome_some, List.length_cons, List.length_nil, ofS_beq, String.reduceBEq, iff_hasw, g, hw, sp_is_variable, sp_is_value, sp_is_operand, sp_is_full_name, iff_b1, oIn_s2, hsz, ga, gb, gc, iff_aro2 gc]
      cases c with
      | tup l =>
        have e4 : decide (((l.length : Nat) : Int) ≤ 4) = decide (l.length < 5) := decide_eq_decide.mpr ⟨fun _ => by omega, fun _ => by omega⟩
        rw [u_lenT, oLe_ii, e4]
        simp only [lenB] at q
        cases h0 : isNon a <;> cases h1 : wordT a 4000 <;> cases h2 : wordT b 4000 <;> cases h3 : opersT (.tup l) <;> simp_all
      | _ =>
        simp only [opersT] at q ⊢
        cases h0 : isNon a <;> cases h1 : wordT a 4000 <;> cases h2 : wordT b 4000 <;> simp_all
    · subst hwd
      obtain ⟨a, rfl⟩ := len1 e
      have ga := gm a (by simp)
      simp [builtT, lookF, formsL, ofS_eq, partsT, p_v, p_o, p_a, p_c, p_n, p_w, p_f, p_s, p_t, c_vc, c_vv, c_voaa, c_vn, c_na, c_vna, c_naa, c_wfs, c_wvt, c_sa] at q
      simp only [↓u_sRet, ↓u_sRetN, ↓u_sNext, ↓u_sBrk, ↓u_sCont, ↓u_sSeq, ↓u_sDrop, ↓u_sIf, ↓u_wNil, ↓u_wCons, ↓u_wTup, ↓u_wLst, ↓u_wTst, ↓u_wTru, ↓u_wAnd, ↓u_wOr, ↓u_wNot, ↓u_wAndV, ↓u_wOrV, ↓u_wNotV, ↓u_wIfE, ↓u_wC, ↓u_wOp, ↓u_wUn, ↓u_wCall, ↓u_wChain, ↓u_wIsi, ↓u_wPart, ↓u_wNoPart, ↓u_wSl, ↓u_slT, ↓u_slL, ↓u_wMeth, ↓u_wKGet, ↓u_wInK, ↓u_sAsg, ↓u_exbl, ↓u_exint, ↓u_exstr, ↓u_exref, ↓u_exsome, ↓u_trubl, ↓u_truint, ↓u_trunon, ↓u_trulst, ↓u_trutup, ↓oEq_ss, ↓oEq_ii, ↓oEq_bb, ↓oEq_ni, ↓oNe_ss, ↓oNe_ii, ↓oNe_bb, ↓oEq_l0, ↓oNe_l0, ↓oEq_t0, ↓oNe_t0, ↓oLt_ii, ↓oLe_ii, ↓oGt_ii, ↓oGe_ii, ↓oSub_ii, ↓oAdd_ii, ↓u_lenT, ↓u_lenL, ↓u_isnon, ↓u_ixtup0, ↓u_ixlst0, ↓u_ixtup1, ↓u_ixlst1, ↓u_ixtup2, ↓u_ixlst2, ↓u_ixtup3, ↓u_ixlst3, ↓u_ixtup4, ↓u_ixlst4, ↓u_ixtup5, ↓u_ixlst5, ↓u_v0, ↓u_s0, ↓u_v1, ↓u_s1, ↓u_v2, ↓u_s2, ↓u_v3, ↓u_s3, ↓u_v4, ↓u_s4, ↓u_v5, ↓u_s5, ↓u_v6, ↓u_s6, ↓u_v7, ↓u_s7, ↓u_v8, ↓u_s8, ↓u_v9, ↓u_s9, ↓u_v10, ↓u_s10, ↓u_v11, ↓u_s11, ↓u_v12, ↓u_s12, ↓u_v13, ↓u_s13, ↓u_v14, ↓u_s14, ↓u_v15, ↓u_s15, ↓u_v16, ↓u_s16, ↓u_v17, ↓u_s17, ↓u_v18, ↓u_s18, ↓u_v19, ↓u_s19, if_true, if_false, Bool.false_eq_true, Bool.not_true, Bool.not_false, Bool.true_and, Bool.false_and, Bool.and_true, Bool.and_false, Bool.or_true, Bool.or_false, Bool.true_or, Bool.false_or, true_and, and_true, Option.isSome_some, List.length_cons, List.length_nil, ofS_beq, String.reduceBEq, iff_hasw, g, hw, sp_is_variable, sp_is_value, sp_is_operand, sp_is_full_name, iff_b1, oIn_s2, hsz, ga]
      simpa using q
theorem ok_is_terminator : ∀ ts S R, sp_is_terminator ts S R → w_is_terminator { nx := fun _ S' => R .non S', rt := R } (startT n_is_terminator ts) S := by
  rintro ts S R ⟨t, n, rfl, g, q⟩
  rw [show startT n_is_terminator [t, .int n] = [some t, some (.int n), none, none] from rfl]
  unfold w_is_terminator
  have hsl := sizeLine_eq
  cases hw : hasW c_END_PARTS t with
  | false =>
    have hb : builtT endsL t n = false := by
      cases hb : builtT endsL t n
      · rfl
      · rw [built_end hb] at hw; cases hw
    rw [hb] at q
    simp only [↓u_sRet, ↓u_sRetN, ↓u_sNext, ↓u_sBrk, ↓u_sCont, ↓u_sSeq, ↓u_sDrop, ↓u_sIf, ↓u_wNil, ↓u_wCons, ↓u_wTup, ↓u_wLst, ↓u_wTst, ↓u_wTru, ↓u_wAnd, ↓u_wOr, ↓u_wNot, ↓u_wAndV, ↓u_wOrV, ↓u_wNotV, ↓u_wIfE, ↓u_wC, ↓u_wOp, ↓u_wUn, ↓u_wCall, ↓u_wChain, ↓u_wIsi, ↓u_wPart, ↓u_wNoPart, ↓u_wSl, ↓u_slT, ↓u_slL, ↓u_wMeth, ↓u_wKGet, ↓u_wInK, ↓u_sAsg, ↓u_exbl, ↓u_exint, ↓u_exstr, ↓u_exref, ↓u_exsome, ↓u_trubl, ↓u_truint, ↓u_trunon, ↓u_trulst, ↓u_trutup, ↓oEq_ss, ↓oEq_ii, ↓oEq_bb, ↓oEq_ni, ↓oNe_ss, ↓oNe_ii, ↓oNe_bb, ↓oEq_l0, ↓oNe_l0, ↓oEq_t0, ↓oNe_t0, ↓oLt_ii, ↓oLe_ii, ↓oGt_ii, ↓oGe_ii, ↓oSub_ii, ↓oAdd_ii, ↓u_lenT, ↓u_lenL, ↓u_isnon, ↓u_ixtup0, ↓u_ixlst0, ↓u_ixtup1, ↓u_ixlst1, ↓u_ixtup2, ↓u_ixlst2, ↓u_ixtup3, ↓u_ixlst3, ↓u_ixtup4, ↓u_ixlst4, ↓u_ixtup5, ↓u_ixlst5, ↓u_v0, ↓u_s0, ↓u_v1, ↓u_s1, ↓u_v2, ↓u_s2, ↓u_v3, ↓u_s3, ↓u_v4, ↓u_s4, ↓u_v5, ↓u_s5, ↓u_v6, ↓u_s6, ↓u_v7, ↓u_s7, ↓u_v8, ↓u_s8, ↓u_v9, ↓u_s9, ↓u_v10, ↓u_s10, ↓u_v11, ↓u_s11, ↓u_v12, ↓u_s12, ↓u_v13, ↓u_s13, ↓u_v14, ↓u_s14, ↓u_v15, ↓u_s15, ↓u_v16, ↓u_s16, ↓u_v17, ↓u_s17, ↓u_v18, ↓u_s18, ↓u_v19, ↓u_s19, if_true, if_false, Bool.false_eq_true, Bool.not_true, Bool.not_false, Bool.true_and, Bool.false_and, Bool.and_true, Bool.and_false, Bool.or_true, Bool.or_false, Bool.true_or, Bool.false_or, true_and, and_true, Option.isSome_some, List.length_cons, List.length_nil, ofS_beq, String.reduceBEq, iff_hasw, g, hw]
    exact q
  | true =>
    obtain ⟨w, args, rfl, hl⟩ := hasW_tup (by rfl) hw
    have gm : ∀ x ∈ args, GT S x := fun x hx => gt_mem g (List.mem_cons_of_mem _ hx)
    rcases end_of hl with ⟨hwd, e⟩ | ⟨hwd, e⟩ | ⟨hwd, e⟩ | ⟨hwd, e⟩
    · subst hwd
      obtain ⟨a, rfl⟩ := len1 e
      have ga := gm a (by simp)
      simp [builtT, lookF, endsL, ofS_eq, partsT, p_b, c_sb] at q
      simp only [↓u_sRet, ↓u_sRetN, ↓u_sNext, ↓u_sBrk, ↓u_sCont, ↓u_sSeq, ↓u_sDrop, ↓u_sIf, ↓u_wNil, ↓u_wCons, ↓u_wTup, ↓u_wLst, ↓u_wTst, ↓u_wTru, ↓u_wAnd, ↓u_wOr, ↓u_wNot, ↓u_wAndV, ↓u_wOrV, ↓u_wNotV, ↓u_wIfE, ↓u_wC, ↓u_wOp, ↓u_wUn, ↓u_wCall, ↓u_wChain, ↓u_wIsi, ↓u_wPart, ↓u_wNoPart, ↓u_wSl, ↓u_slT, ↓u_slL, ↓u_wMeth, ↓u_wKGet, ↓u_wInK, ↓u_sAsg, ↓u_exbl, ↓u_exint, ↓u_exstr, ↓u_exref, ↓u_exsome, ↓u_trubl, ↓u_truint, ↓u_trunon, ↓u_trulst, ↓u_trutup, ↓oEq_ss, ↓oEq_ii, ↓oEq_bb, ↓oEq_ni, ↓oNe_ss, ↓oNe_ii, ↓oNe_bb, ↓oEq_l0, ↓oNe_l0, ↓oEq_t0, ↓oNe_t0, ↓oLt_ii, ↓oLe_ii, ↓oGt_ii, ↓oGe_ii, ↓oSub_ii, ↓oAdd_ii, ↓u_lenT, ↓u_lenL, ↓u_isnon, ↓u_ixtup0, ↓u_ixlst0, ↓u_ixtup1, ↓u_ixlst1, ↓u_ixtup2, ↓u_ixlst2, ↓u_ixtup3, ↓u_ixlst3, ↓u_ixtup4, ↓u_ixlst4, ↓u_ixtup5, ↓u_ixlst5, ↓u_v0, ↓u_s0, ↓u_v1, ↓u_s1, ↓u_v2, ↓u_s2, ↓u_v3, ↓u_s3, ↓u_v4, ↓u_s4, ↓u_v5, ↓u_s5, ↓u_v6, ↓u_s6, ↓u_v7, ↓u_s7, ↓u_v8, ↓u_s8, ↓u_v9, ↓u_s9, ↓u_v10, ↓u_s10, ↓u_v11, ↓u_s11, ↓u_v12, ↓u_s12, ↓u_v13, ↓u_s13, ↓u_v14, ↓u_s14, ↓u_v15, ↓u_s15, ↓u_v16, ↓u_s16, ↓u_v17, ↓u_s17, ↓u_v18, ↓u_s18, ↓u_v19, ↓u_s19, if_true, if_false, Bool.false_eq_true, Bool.not_true, Bool.not_false, Bool.true_and, Bool.false_and, Bool.and_true, Bool.and_false, Bool.or_true, Bool.or_false, Bool.true_or, Bool.false_or, true_and, and_true, Option.isSome_some, List.length_cons, List.length_nil, ofS_beq, String.reduceBEq, iff_hasw, g, hw, ga, iff_bnum]
      exact q
    · subst hwd
      obtain ⟨a, b, c, rfl⟩ := len3 e
      have ga := gm a (by simp)
      have gb := gm b (by simp)
      have gc := gm c (by simp)
      have ecut : cutT [T.str (Str.ofString "branch"), a, b, c] (some 2) none = [b, c] := by rfl
      simp [builtT, lookF, endsL, ofS_eq, partsT, p_a, p_b, c_abb] at q
      simp only [↓u_sRet, ↓u_sRetN, ↓u_sNext, ↓u_sBrk, ↓u_sCont, ↓u_sSeq, ↓u_sDrop, ↓u_sIf, ↓u_wNil, ↓u_wCons, ↓u_wTup, ↓u_wLst, ↓u_wTst, ↓u_wTru, ↓u_wAnd, ↓u_wOr, ↓u_wNot, ↓u_wAndV, ↓u_wOrV, ↓u_wNotV, ↓u_wIfE, ↓u_wC, ↓u_wOp, ↓u_wUn, ↓u_wCall, ↓u_wChain, ↓u_wIsi, ↓u_wPart, ↓u_wNoPart, ↓u_wSl, ↓u_slT, ↓u_slL, ↓u_wMeth, ↓u_wKGet, ↓u_wInK, ↓u_sAsg, ↓u_exbl, ↓u_exint, ↓u_exstr, ↓u_exref, ↓u_exsome, ↓u_trubl, ↓u_truint, ↓u_trunon, ↓u_trulst, ↓u_trutup, ↓oEq_ss, ↓oEq_ii, ↓oEq_bb, ↓oEq_ni, ↓oNe_ss, ↓oNe_ii, ↓oNe_bb, ↓oEq_l0, ↓oNe_l0, ↓oEq_t0, ↓oNe_t0, ↓oLt_ii, ↓oLe_ii, ↓oGt_ii, ↓oGe_ii, ↓oSub_ii, ↓oAdd_ii, ↓u_lenT, ↓u_lenL, ↓u_isnon, ↓u_ixtup0, ↓u_ixlst0, ↓u_ixtup1, ↓u_ixlst1, ↓u_ixtup2, ↓u_ixlst2, ↓u_ixtup3, ↓u_ixlst3, ↓u_ixtup4, ↓u_ixlst4, ↓u_ixtup5, ↓u_ixlst5, ↓u_v0, ↓u_s0, ↓u_v1, ↓u_s1, ↓u_v2, ↓u_s2, ↓u_v3, ↓u_s3, ↓u_v4, ↓u_s4, ↓u_v5, ↓u_s5, ↓u_v6, ↓u_s6, ↓u_v7, ↓u_s7, ↓u_v8, ↓u_s8, ↓u_v9, ↓u_s9, ↓u_v10, ↓u_s10, ↓u_v11, ↓u_s11, ↓u_v12, ↓u_s12, ↓u_v13, ↓u_s13, ↓u_v14, ↓u_s14, ↓u_v15, ↓u_s15, ↓u_v16, ↓u_s16, ↓u_v17, ↓u_s17, ↓u_v18, ↓u_s18, ↓u_v19, ↓u_s19, if_true, if_false, Bool.false_eq_true, Bool.not_true, Bool.not_false, Bool.true_and, Bool.false_and, Bool.and_true, Bool.and_false, Bool.or_true, Bool.or_false, Bool.true_or, Bool.false_or, true_and, and_true, Option.isSome_some, List.length_cons, List.length_nil, ofS_beq, String.reduceBEq, iff_hasw, g, hw, ga, gb, gc, sp_is_operand, iff_b1]
      cases ho : operT a with
      | false =>
        rw [ho] at q
        simpa using q
      | true =>
        rw [ho, Bool.true_and] at q
        rw [if_pos rfl]
        refine wLc_map (t := .tup [b, c]) (ts := [b, c]) (fun x => .bl (wordT x n)) (fun R' q' => ?_) rfl (by simp; omega) (fun x hx => ?_) (oAll_map ?_)
        · simp only [↓u_sRet, ↓u_sRetN, ↓u_sNext, ↓u_sBrk, ↓u_sCont, ↓u_sSeq, ↓u_sDrop, ↓u_sIf, ↓u_wNil, ↓u_wCons, ↓u_wTup, ↓u_wLst, ↓u_wTst, ↓u_wTru, ↓u_wAnd, ↓u_wOr, ↓u_wNot, ↓u_wAndV, ↓u_wOrV, ↓u_wNotV, ↓u_wIfE, ↓u_wC, ↓u_wOp, ↓u_wUn, ↓u_wCall, ↓u_wChain, ↓u_wIsi, ↓u_wPart, ↓u_wNoPart, ↓u_wSl, ↓u_slT, ↓u_slL, ↓u_wMeth, ↓u_wKGet, ↓u_wInK, ↓u_sAsg, ↓u_exbl, ↓u_exint, ↓u_exstr, ↓u_exref, ↓u_exsome, ↓u_trubl, ↓u_truint, ↓u_trunon, ↓u_trulst, ↓u_trutup, ↓oEq_ss, ↓oEq_ii, ↓oEq_bb, ↓oEq_ni, ↓oNe_ss, ↓oNe_ii, ↓oNe_bb, ↓oEq_l0, ↓oNe_l0, ↓oEq_t0, ↓oNe_t0, ↓oLt_ii, ↓oLe_ii, ↓oGt_ii, ↓oGe_ii, ↓oSub_ii, ↓oAdd_ii, ↓u_lenT, ↓u_lenL, ↓u_isnon, ↓u_ixtup0, ↓u_ixlst0, ↓u_ixtup1, ↓u_ixlst1, ↓u_ixtup2, ↓u_ixlst2, ↓u_ixtup3, ↓u_ixlst3, ↓u_ixtup4, ↓u_ixlst4, ↓u_ixtup5, ↓u_ixlst5, ↓u_v0, ↓u_s0, ↓u_v1, ↓u_s1, ↓u_v2, ↓u_s2, ↓u_v3, ↓u_s3, ↓u_v4, ↓u_s4, ↓u_v5, ↓u_s5, ↓u_v6, ↓u_s6, ↓u_v7, ↓u_s7, ↓u_v8, ↓u_s8, ↓u_v9, ↓u_s9, ↓u_v10, ↓u_s10, ↓u_v11, ↓u_s11, ↓u_v12, ↓u_s12, ↓u_v13, ↓u_s13, ↓u_v14, ↓u_s14, ↓u_v15, ↓u_s15, ↓u_v16, ↓u_s16, ↓u_v17, ↓u_s17, ↓u_v18, ↓u_s18, ↓u_v19, ↓u_s19, if_true, if_false, Bool.false_eq_true, Bool.not_true, Bool.not_false, Bool.true_and, Bool.false_and, Bool.and_true, Bool.and_false, Bool.or_true, Bool.or_false, Bool.true_or, Bool.false_or, true_and, and_true, Option.isSome_some, List.length_cons, List.length_nil, ofS_beq, String.reduceBEq, ecut]
          exact q'
        · have gx : GT S x := by
            rcases List.mem_cons.mp hx with rfl | hx
            · exact gb
            · have : x = c := by simpa using hx
              rw [this]; exact gc
          refine ⟨_, rfl, fun R' q' => ?_⟩
          show wCall sp_is_block_number _ [some (T.tup [T.str (Str.ofString "branch"), a, b, c]), some (.int n), some (.str (Str.ofString "branch")), some x] S R'
          simp only [↓u_sRet, ↓u_sRetN, ↓u_sNext, ↓u_sBrk, ↓u_sCont, ↓u_sSeq, ↓u_sDrop, ↓u_sIf, ↓u_wNil, ↓u_wCons, ↓u_wTup, ↓u_wLst, ↓u_wTst, ↓u_wTru, ↓u_wAnd, ↓u_wOr, ↓u_wNot, ↓u_wAndV, ↓u_wOrV, ↓u_wNotV, ↓u_wIfE, ↓u_wC, ↓u_wOp, ↓u_wUn, ↓u_wCall, ↓u_wChain, ↓u_wIsi, ↓u_wPart, ↓u_wNoPart, ↓u_wSl, ↓u_slT, ↓u_slL, ↓u_wMeth, ↓u_wKGet, ↓u_wInK, ↓u_sAsg, ↓u_exbl, ↓u_exint, ↓u_exstr, ↓u_exref, ↓u_exsome, ↓u_trubl, ↓u_truint, ↓u_trunon, ↓u_trulst, ↓u_trutup, ↓oEq_ss, ↓oEq_ii, ↓oEq_bb, ↓oEq_ni, ↓oNe_ss, ↓oNe_ii, ↓oNe_bb, ↓oEq_l0, ↓oNe_l0, ↓oEq_t0, ↓oNe_t0, ↓oLt_ii, ↓oLe_ii, ↓oGt_ii, ↓oGe_ii, ↓oSub_ii, ↓oAdd_ii, ↓u_lenT, ↓u_lenL, ↓u_isnon, ↓u_ixtup0, ↓u_ixlst0, ↓u_ixtup1, ↓u_ixlst1, ↓u_ixtup2, ↓u_ixlst2, ↓u_ixtup3, ↓u_ixlst3, ↓u_ixtup4, ↓u_ixlst4, ↓u_ixtup5, ↓u_ixlst5, ↓u_v0, ↓u_s0, ↓u_v1, ↓u_s1, ↓u_v2, ↓u_s2, ↓u_v3, ↓u_s3, ↓u_v4, ↓u_s4, ↓u_v5, ↓u_s5, ↓u_v6, ↓u_s6, ↓u_v7, ↓u_s7, ↓u_v8, ↓u_s8, ↓u_v9, ↓u_s9, ↓u_v10, ↓u_s10, ↓u_v11, ↓u_s11, ↓u_v12, ↓u_s12, ↓u_v13, ↓u_s13, ↓u_v14, ↓u_s14, ↓u_v15, ↓u_s15, ↓u_v16, ↓u_s16, ↓u_v17, ↓u_s17, ↓u_v18, ↓u_s18, ↓u_v19, ↓u_s19, if_true, if_false, Bool.false_eq_true, Bool.not_true, Bool.not_false, Bool.true_and, Bool.false_and, Bool.and_true, Bool.and_false, Bool.or_true, Bool.or_false, Bool.true_or, Bool.false_or, true_and, and_true, Option.isSome_some, List.length_cons, List.length_nil, ofS_beq, String.reduceBEq, iff_bnum, gx]
          exact q'
        · simpa using q
    · subst hwd
      obtain ⟨a, rfl⟩ := len1 e
      have ga := gm a (by simp)
      simp [builtT, lookF, endsL, ofS_eq, partsT, p_r, c_sr] at q
      simp only [↓u_sRet, ↓u_sRetN, ↓u_sNext, ↓u_sBrk, ↓u_sCont, ↓u_sSeq, ↓u_sDrop, ↓u_sIf, ↓u_wNil, ↓u_wCons, ↓u_wTup, ↓u_wLst, ↓u_wTst, ↓u_wTru, ↓u_wAnd, ↓u_wOr, ↓u_wNot, ↓u_wAndV, ↓u_wOrV, ↓u_wNotV, ↓u_wIfE, ↓u_wC, ↓u_wOp, ↓u_wUn, ↓u_wCall, ↓u_wChain, ↓u_wIsi, ↓u_wPart, ↓u_wNoPart, ↓u_wSl, ↓u_slT, ↓u_slL, ↓u_wMeth, ↓u_wKGet, ↓u_wInK, ↓u_sAsg, ↓u_exbl, ↓u_exint, ↓u_exstr, ↓u_exref, ↓u_exsome, ↓u_trubl, ↓u_truint, ↓u_trunon, ↓u_trulst, ↓u_trutup, ↓oEq_ss, ↓oEq_ii, ↓oEq_bb, ↓oEq_ni, ↓oNe_ss, ↓oNe_ii, ↓oNe_bb, ↓oEq_l0, ↓oNe_l0, ↓oEq_t0, ↓oNe_t0, ↓oLt_ii, ↓oLe_ii, ↓oGt_ii, ↓oGe_ii, ↓oSub_ii, ↓oAdd_ii, ↓u_lenT, ↓u_lenL, ↓u_isnon, ↓u_ixtup0, ↓u_ixlst0, ↓u_ixtup1, ↓u_ixlst1, ↓u_ixtup2, ↓u_ixlst2, ↓u_ixtup3, ↓u_ixlst3, ↓u_ixtup4, ↓u_ixlst4, ↓u_ixtup5, ↓u_ixlst5, ↓u_v0, ↓u_s0, ↓u_v1, ↓u_s1, ↓u_v2, ↓u_s2, ↓u_v3, ↓u_s3, ↓u_v4, ↓u_s4, ↓u_v5, ↓u_s5, ↓u_v6, ↓u_s6, ↓u_v7, ↓u_s7, ↓u_v8, ↓u_s8, ↓u_v9, ↓u_s9, ↓u_v10, ↓u_s10, ↓u_v11, ↓u_s11, ↓u_v12, ↓u_s12, ↓u_v13, ↓u_s13, ↓u_v14, ↓u_s14, ↓u_v15, ↓u_s15, ↓u_v16, ↓u_s16, ↓u_v17, ↓u_s17, ↓u_v18, ↓u_s18, ↓u_v19, ↓u_s19, if_true, if_false, Bool.false_eq_true, Bool.not_true, Bool.not_false, Bool.true_and, Bool.false_and, Bool.and_true, Bool.and_false, Bool.or_true, Bool.or_false, Bool.true_or, Bool.false_or, true_and, and_true, Option.isSome_some, List.length_cons, List.length_nil, ofS_beq, String.reduceBEq, iff_hasw, g, hw, ga, sp_is_operand, iff_b1]
      cases hn : isNon a <;> simp_all
    · subst hwd
      obtain ⟨a, rfl⟩ := len1 e
      have ga := gm a (by simp)
      simp [builtT, lookF, endsL, ofS_eq, partsT, p_k, c_sk] at q
      simp only [↓u_sRet, ↓u_sRetN, ↓u_sNext, ↓u_sBrk, ↓u_sCont, ↓u_sSeq, ↓u_sDrop, ↓u_sIf, ↓u_wNil, ↓u_wCons, ↓u_wTup, ↓u_wLst, ↓u_wTst, ↓u_wTru, ↓u_wAnd, ↓u_wOr, ↓u_wNot, ↓u_wAndV, ↓u_wOrV, ↓u_wNotV, ↓u_wIfE, ↓u_wC, ↓u_wOp, ↓u_wUn, ↓u_wCall, ↓u_wChain, ↓u_wIsi, ↓u_wPart, ↓u_wNoPart, ↓u_wSl, ↓u_slT, ↓u_slL, ↓u_wMeth, ↓u_wKGet, ↓u_wInK, ↓u_sAsg, ↓u_exbl, ↓u_exint, ↓u_exstr, ↓u_exref, ↓u_exsome, ↓u_trubl, ↓u_truint, ↓u_trunon, ↓u_trulst, ↓u_trutup, ↓oEq_ss, ↓oEq_ii, ↓oEq_bb, ↓oEq_ni, ↓oNe_ss, ↓oNe_ii, ↓oNe_bb, ↓oEq_l0, ↓oNe_l0, ↓oEq_t0, ↓oNe_t0, ↓oLt_ii, ↓oLe_ii, ↓oGt_ii, ↓oGe_ii, ↓oSub_ii, ↓oAdd_ii, ↓u_lenT, ↓u_lenL, ↓u_isnon, ↓u_ixtup0, ↓u_ixlst0, ↓u_ixtup1, ↓u_ixlst1, ↓u_ixtup2, ↓u_ixlst2, ↓u_ixtup3, ↓u_ixlst3, ↓u_ixtup4, ↓u_ixlst4, ↓u_ixtup5, ↓u_ixlst5, ↓u_v0, ↓u_s0, ↓u_v1, ↓u_s1, ↓u_v2, ↓u_s2, ↓u_v3, ↓u_s3, ↓u_v4, ↓u_s4, ↓u_v5, ↓u_s5, ↓u_v6, ↓u_s6, ↓u_v7, ↓u_s7, ↓u_v8, ↓u_s8, ↓u_v9, ↓u_s9, ↓u_v10, ↓u_s10, ↓u_v11, ↓u_s11, ↓u_v12, ↓u_s12, ↓u_v13, ↓u_s13, ↓u_v14, ↓u_s14, ↓u_v15, ↓u_s15, ↓u_v16, ↓u_s16, ↓u_v17, ↓u_s17, ↓u_v18, ↓u_s18, ↓u_v19, ↓u_s19, if_true, if_false, Bool.false_eq_true, Bool.not_true, Bool.not_false, Bool.true_and, Bool.false_and, Bool.and_true, Bool.and_false, Bool.or_true, Bool.or_false, Bool.true_or, Bool.false_or, true_and, and_true, Option.isSome_some, List.length_cons, List.length_nil, ofS_beq, String.reduceBEq, iff_hasw, g, hw, ga, sp_is_word, iff_b1]
      exact q
/-- instructions do not name blocks -/
theorem built_free (t : T) (m n : Int) : builtT formsL t m = builtT formsL t n := by
  have key : ∀ w ks, lookF w formsL = some ks → ∀ args, partsT m ks.cps.toList args = partsT n ks.cps.toList args := by
    intro w ks h args
    rcases form_of h with ⟨_, rfl⟩ | ⟨_, rfl⟩ | ⟨_, rfl⟩ | ⟨_, rfl⟩ | ⟨_, rfl⟩ | ⟨_, rfl⟩ | ⟨_, rfl⟩ | ⟨_, rfl⟩ | ⟨_, rfl⟩ | ⟨_, rfl⟩ <;>
      simp only [c_vc, c_vv, c_voaa, c_vn, c_na, c_vna, c_naa, c_wfs, c_wvt, c_sa] <;>
      (rcases args with _ | ⟨a, _ | ⟨b, _ | ⟨c, _ | ⟨d, _ | ⟨e, l⟩⟩⟩⟩⟩ <;> simp [partsT, p_v, p_o, p_a, p_c, p_n, p_w, p_f, p_s, p_t])
  cases t with
  | tup ts =>
    cases ts with
    | nil => rfl
    | cons x args =>
      cases x with
      | str w =>
        simp only [builtT]
        cases h : lookF w formsL with
        | none => rfl
        | some ks => exact key w ks h args
      | _ => rfl
  | _ => rfl
theorem ok_is_block : ∀ ts S R, sp_is_block ts S R → w_is_block { nx := fun _ S' => R .non S', rt := R } (startT n_is_block ts) S := by
  rintro ts S R ⟨t, n, rfl, g, q⟩
  rw [show startT n_is_block [t, .int n] = [some t, some (.int n), none] from rfl]
  unfold w_is_block
  have hsl := sizeLine_eq
  have i1 := (gt_isa g).2.2.2
  have i2 := gt_ty g
  cases t with
  | tup ts =>
    match ts, g, i1, i2, q with
    | [], g, i1, i2, q => simp only [↓u_sRet, ↓u_sRetN, ↓u_sNext, ↓u_sBrk, ↓u_sCont, ↓u_sSeq, ↓u_sDrop, ↓u_sIf, ↓u_wNil, ↓u_wCons, ↓u_wTup, ↓u_wLst, ↓u_wTst, ↓u_wTru, ↓u_wAnd, ↓u_wOr, ↓u_wNot, ↓u_wAndV, ↓u_wOrV, ↓u_wNotV, ↓u_wIfE, ↓u_wC, ↓u_wOp, ↓u_wUn, ↓u_wCall, ↓u_wChain, ↓u_wIsi, ↓u_wPart, ↓u_wNoPart, ↓u_wSl, ↓u_slT, ↓u_slL, ↓u_wMeth, ↓u_wKGet, ↓u_wInK, ↓u_sAsg, ↓u_exbl, ↓u_exint, ↓u_exstr, ↓u_exref, ↓u_exsome, ↓u_trubl, ↓u_truint, ↓u_trunon, ↓u_trulst, ↓u_trutup, ↓oEq_ss, ↓oEq_ii, ↓oEq_bb, ↓oEq_ni, ↓oNe_ss, ↓oNe_ii, ↓oNe_bb, ↓oEq_l0, ↓oNe_l0, ↓oEq_t0, ↓oNe_t0, ↓oLt_ii, ↓oLe_ii, ↓oGt_ii, ↓oGe_ii, ↓oSub_ii, ↓oAdd_ii, ↓u_lenT, ↓u_lenL, ↓u_isnon, ↓u_ixtup0, ↓u_ixlst0, ↓u_ixtup1, ↓u_ixlst1, ↓u_ixtup2, ↓u_ixlst2, ↓u_ixtup3, ↓u_ixlst3, ↓u_ixtup4, ↓u_ixlst4, ↓u_ixtup5, ↓u_ixlst5, ↓u_v0, ↓u_s0, ↓u_v1, ↓u_s1, ↓u_v2, ↓u_s2, ↓u_v3, ↓u_s3, ↓u_v4, ↓u_s4, ↓u_v5, ↓u_s5, ↓u_v6, ↓u_s6, ↓u_v7, ↓u_s7, ↓u_v8, ↓u_s8, ↓u_v9, ↓u_s9, ↓u_v10, ↓u_s10, ↓u_v11, ↓u_s11, ↓u_v12, ↓u_s12, ↓u_v13, ↓u_s13, ↓u_v14, ↓u_s14, ↓u_v15, ↓u_s15, ↓u_v16, ↓u_s16, ↓u_v17, ↓u_s17, ↓u_v18, ↓u_s18, ↓u_v19, ↓u_s19, if_true, if_false, Bool.false_eq_true, Bool.not_true, Bool.not_false, Bool.true_and, Bool.false_and, Bool.and_true, Bool.and_false, Bool.or_true, Bool.or_false, Bool.true_or, Bool.false_or, true_and, and_true, Option.isSome_some, List.length_cons, List.length_nil, ofS_beq, String.reduceBEq, i1, i2]; exact q
    | [x], g, i1, i2, q => simp only [↓u_sRet, ↓u_sRetN, ↓u_sNext, ↓u_sBrk, ↓u_sCont, ↓u_sSeq, ↓u_sDrop, ↓u_sIf, ↓u_wNil, ↓u_wCons, ↓u_wTup, ↓u_wLst, ↓u_wTst, ↓u_wTru, ↓u_wAnd, ↓u_wOr, ↓u_wNot, ↓u_wAndV, ↓u_wOrV, ↓u_wNotV, ↓u_wIfE, ↓u_wC, ↓u_wOp, ↓u_wUn, ↓u_wCall, ↓u_wChain, ↓u_wIsi, ↓u_wPart, ↓u_wNoPart, ↓u_wSl, ↓u_slT, ↓u_slL, ↓u_wMeth, ↓u_wKGet, ↓u_wInK, ↓u_sAsg, ↓u_exbl, ↓u_exint, ↓u_exstr, ↓u_exref, ↓u_exsome, ↓u_trubl, ↓u_truint, ↓u_trunon, ↓u_trulst, ↓u_trutup, ↓oEq_ss, ↓oEq_ii, ↓oEq_bb, ↓oEq_ni, ↓oNe_ss, ↓oNe_ii, ↓oNe_bb, ↓oEq_l0, ↓oNe_l0, ↓oEq_t0, ↓oNe_t0, ↓oLt_ii, ↓oLe_ii, ↓oGt_ii, ↓oGe_ii, ↓oSub_ii, ↓oAdd_ii, ↓u_lenT, ↓u_lenL, ↓u_isnon, ↓u_ixtup0, ↓u_ixlst0, ↓u_ixtup1, ↓u_ixlst1, ↓u_ixtup2, ↓u_ixlst2, ↓u_ixtup3, ↓u_ixlst3, ↓u_ixtup4, ↓u_ixlst4, ↓u_ixtup5, ↓u_ixlst5, ↓u_v0, ↓u_s0, ↓u_v1, ↓u_s1, ↓u_v2, ↓u_s2, ↓u_v3, ↓u_s3, ↓u_v4, ↓u_s4, ↓u_v5, ↓u_s5, ↓u_v6, ↓u_s6, ↓u_v7, ↓u_s7, ↓u_v8, ↓u_s8, ↓u_v9, ↓u_s9, ↓u_v10, ↓u_s10, ↓u_v11, ↓u_s11, ↓u_v12, ↓u_s12, ↓u_v13, ↓u_s13, ↓u_v14, ↓u_s14, ↓u_v15, ↓u_s15, ↓u_v16, ↓u_s16, ↓u_v17, ↓u_s17, ↓u_v18, ↓u_s18, ↓u_v19, ↓u_s19, if_true, if_false, Bool.false_eq_true, Bool.not_true, Bool.not_false, Bool.true_and, Bool.false_and, Bool.and_true, Bool.and_false, Bool.or_true, Bool.or_false, Bool.true_or, Bool.false_or, true_and, and_true, Option.isSome_some, List.length_cons, List.length_nil, ofS_beq, String.reduceBEq, i1, i2]; exact q
    | x :: y :: z :: l, g, i1, i2, q =>
      simp only [↓u_sRet, ↓u_sRetN, ↓u_sNext, ↓u_sBrk, ↓u_sCont, ↓u_sSeq, ↓u_sDrop, ↓u_sIf, ↓u_wNil, ↓u_wCons, ↓u_wTup, ↓u_wLst, ↓u_wTst, ↓u_wTru, ↓u_wAnd, ↓u_wOr, ↓u_wNot, ↓u_wAndV, ↓u_wOrV, ↓u_wNotV, ↓u_wIfE, ↓u_wC, ↓u_wOp, ↓u_wUn, ↓u_wCall, ↓u_wChain, ↓u_wIsi, ↓u_wPart, ↓u_wNoPart, ↓u_wSl, ↓u_slT, ↓u_slL, ↓u_wMeth, ↓u_wKGet, ↓u_wInK, ↓u_sAsg, ↓u_exbl, ↓u_exint, ↓u_exstr, ↓u_exref, ↓u_exsome, ↓u_trubl, ↓u_truint, ↓u_trunon, ↓u_trulst, ↓u_trutup, ↓oEq_ss, ↓oEq_ii, ↓oEq_bb, ↓oEq_ni, ↓oNe_ss, ↓oNe_ii, ↓oNe_bb, ↓oEq_l0, ↓oNe_l0, ↓oEq_t0, ↓oNe_t0, ↓oLt_ii, ↓oLe_ii, ↓oGt_ii, ↓oGe_ii, ↓oSub_ii, ↓oAdd_ii, ↓u_lenT, ↓u_lenL, ↓u_isnon, ↓u_ixtup0, ↓u_ixlst0, ↓u_ixtup1, ↓u_ixlst1, ↓u_ixtup2, ↓u_ixlst2, ↓u_ixtup3, ↓u_ixlst3, ↓u_ixtup4, ↓u_ixlst4, ↓u_ixtup5, ↓u_ixlst5, ↓u_v0, ↓u_s0, ↓u_v1, ↓u_s1, ↓u_v2, ↓u_s2, ↓u_v3, ↓u_s3, ↓u_v4, ↓u_s4, ↓u_v5, ↓u_s5, ↓u_v6, ↓u_s6, ↓u_v7, ↓u_s7, ↓u_v8, ↓u_s8, ↓u_v9, ↓u_s9, ↓u_v10, ↓u_s10, ↓u_v11, ↓u_s11, ↓u_v12, ↓u_s12, ↓u_v13, ↓u_s13, ↓u_v14, ↓u_s14, ↓u_v15, ↓u_s15, ↓u_v16, ↓u_s16, ↓u_v17, ↓u_s17, ↓u_v18, ↓u_s18, ↓u_v19, ↓u_s19, if_true, if_false, Bool.false_eq_true, Bool.not_true, Bool.not_false, Bool.true_and, Bool.false_and, Bool.and_true, Bool.and_false, Bool.or_true, Bool.or_false, Bool.true_or, Bool.false_or, true_and, and_true, Option.isSome_some, List.length_cons, List.length_nil, ofS_beq, String.reduceBEq, i1, i2]
      rw [if_pos (by simp; omega)]
      exact q
    | [x, e], g, i1, i2, q =>
      obtain ⟨p1, p2, g1, g2⟩ := gt2 g
      have j1 := (gt_isa g1).2.2.2
      have j2 := gt_ty g1
      cases x with
      | tup rows =>
        simp only [blockT] at q
        simp only [↓u_sRet, ↓u_sRetN, ↓u_sNext, ↓u_sBrk, ↓u_sCont, ↓u_sSeq, ↓u_sDrop, ↓u_sIf, ↓u_wNil, ↓u_wCons, ↓u_wTup, ↓u_wLst, ↓u_wTst, ↓u_wTru, ↓u_wAnd, ↓u_wOr, ↓u_wNot, ↓u_wAndV, ↓u_wOrV, ↓u_wNotV, ↓u_wIfE, ↓u_wC, ↓u_wOp, ↓u_wUn, ↓u_wCall, ↓u_wChain, ↓u_wIsi, ↓u_wPart, ↓u_wNoPart, ↓u_wSl, ↓u_slT, ↓u_slL, ↓u_wMeth, ↓u_wKGet, ↓u_wInK, ↓u_sAsg, ↓u_exbl, ↓u_exint, ↓u_exstr, ↓u_exref, ↓u_exsome, ↓u_trubl, ↓u_truint, ↓u_trunon, ↓u_trulst, ↓u_trutup, ↓oEq_ss, ↓oEq_ii, ↓oEq_bb, ↓oEq_ni, ↓oNe_ss, ↓oNe_ii, ↓oNe_bb, ↓oEq_l0, ↓oNe_l0, ↓oEq_t0, ↓oNe_t0, ↓oLt_ii, ↓oLe_ii, ↓oGt_ii, ↓oGe_ii, ↓oSub_ii, ↓oAdd_ii, ↓u_lenT, ↓u_lenL, ↓u_isnon, ↓u_ixtup0, ↓u_ixlst0, ↓u_ixtup1, ↓u_ixlst1, ↓u_ixtup2, ↓u_ixlst2, ↓u_ixtup3, ↓u_ixlst3, ↓u_ixtup4, ↓u_ixlst4, ↓u_ixtup5, ↓u_ixlst5, ↓u_v0, ↓u_s0, ↓u_v1, ↓u_s1, ↓u_v2, ↓u_s2, ↓u_v3, ↓u_s3, ↓u_v4, ↓u_s4, ↓u_v5, ↓u_s5, ↓u_v6, ↓u_s6, ↓u_v7, ↓u_s7, ↓u_v8, ↓u_s8, ↓u_v9, ↓u_s9, ↓u_v10, ↓u_s10, ↓u_v11, ↓u_s11, ↓u_v12, ↓u_s12, ↓u_v13, ↓u_s13, ↓u_v14, ↓u_s14, ↓u_v15, ↓u_s15, ↓u_v16, ↓u_s16, ↓u_v17, ↓u_s17, ↓u_v18, ↓u_s18, ↓u_v19, ↓u_s19, if_true, if_false, Bool.false_eq_true, Bool.not_true, Bool.not_false, Bool.true_and, Bool.false_and, Bool.and_true, Bool.and_false, Bool.or_true, Bool.or_false, Bool.true_or, Bool.false_or, true_and, and_true, Option.isSome_some, List.length_cons, List.length_nil, ofS_beq, String.reduceBEq, i1, i2, j1, j2]
        rw [if_neg (by simp)]
        refine wLc_map (t := .tup rows) (ts := rows) (fun x => .bl (builtT formsL x 0)) (fun R' q' => ?_) rfl (by have := gt_len g1; omega) (fun x hx => ?_) (oAll_map ?_)
        · simp only [↓u_sRet, ↓u_sRetN, ↓u_sNext, ↓u_sBrk, ↓u_sCont, ↓u_sSeq, ↓u_sDrop, ↓u_sIf, ↓u_wNil, ↓u_wCons, ↓u_wTup, ↓u_wLst, ↓u_wTst, ↓u_wTru, ↓u_wAnd, ↓u_wOr, ↓u_wNot, ↓u_wAndV, ↓u_wOrV, ↓u_wNotV, ↓u_wIfE, ↓u_wC, ↓u_wOp, ↓u_wUn, ↓u_wCall, ↓u_wChain, ↓u_wIsi, ↓u_wPart, ↓u_wNoPart, ↓u_wSl, ↓u_slT, ↓u_slL, ↓u_wMeth, ↓u_wKGet, ↓u_wInK, ↓u_sAsg, ↓u_exbl, ↓u_exint, ↓u_exstr, ↓u_exref, ↓u_exsome, ↓u_trubl, ↓u_truint, ↓u_trunon, ↓u_trulst, ↓u_trutup, ↓oEq_ss, ↓oEq_ii, ↓oEq_bb, ↓oEq_ni, ↓oNe_ss, ↓oNe_ii, ↓oNe_bb, ↓oEq_l0, ↓oNe_l0, ↓oEq_t0, ↓oNe_t0, ↓oLt_ii, ↓oLe_ii, ↓oGt_ii, ↓oGe_ii, ↓oSub_ii, ↓oAdd_ii, ↓u_lenT, ↓u_lenL, ↓u_isnon, ↓u_ixtup0, ↓u_ixlst0, ↓u_ixtup1, ↓u_ixlst1, ↓u_ixtup2, ↓u_ixlst2, ↓u_ixtup3, ↓u_ixlst3, ↓u_ixtup4, ↓u_ixlst4, ↓u_ixtup5, ↓u_ixlst5, ↓u_v0, ↓u_s0, ↓u_v1, ↓u_s1, ↓u_v2, ↓u_s2, ↓u_v3, ↓u_s3, ↓u_v4, ↓u_s4, ↓u_v5, ↓u_s5, ↓u_v6, ↓u_s6, ↓u_v7, ↓u_s7, ↓u_v8, ↓u_s8, ↓u_v9, ↓u_s9, ↓u_v10, ↓u_s10, ↓u_v11, ↓u_s11, ↓u_v12, ↓u_s12, ↓u_v13, ↓u_s13, ↓u_v14, ↓u_s14, ↓u_v15, ↓u_s15, ↓u_v16, ↓u_s16, ↓u_v17, ↓u_s17, ↓u_v18, ↓u_s18, ↓u_v19, ↓u_s19, if_true, if_false, Bool.false_eq_true, Bool.not_true, Bool.not_false, Bool.true_and, Bool.false_and, Bool.and_true, Bool.and_false, Bool.or_true, Bool.or_false, Bool.true_or, Bool.false_or, true_and, and_true, Option.isSome_some, List.length_cons, List.length_nil, ofS_beq, String.reduceBEq]; exact q'
        · refine ⟨_, rfl, fun R' q' => ?_⟩
          show wCall sp_is_instruction _ [some (T.tup [T.tup rows, e]), some (.int n), some x] S R'
          simp only [↓u_sRet, ↓u_sRetN, ↓u_sNext, ↓u_sBrk, ↓u_sCont, ↓u_sSeq, ↓u_sDrop, ↓u_sIf, ↓u_wNil, ↓u_wCons, ↓u_wTup, ↓u_wLst, ↓u_wTst, ↓u_wTru, ↓u_wAnd, ↓u_wOr, ↓u_wNot, ↓u_wAndV, ↓u_wOrV, ↓u_wNotV, ↓u_wIfE, ↓u_wC, ↓u_wOp, ↓u_wUn, ↓u_wCall, ↓u_wChain, ↓u_wIsi, ↓u_wPart, ↓u_wNoPart, ↓u_wSl, ↓u_slT, ↓u_slL, ↓u_wMeth, ↓u_wKGet, ↓u_wInK, ↓u_sAsg, ↓u_exbl, ↓u_exint, ↓u_exstr, ↓u_exref, ↓u_exsome, ↓u_trubl, ↓u_truint, ↓u_trunon, ↓u_trulst, ↓u_trutup, ↓oEq_ss, ↓oEq_ii, ↓oEq_bb, ↓oEq_ni, ↓oNe_ss, ↓oNe_ii, ↓oNe_bb, ↓oEq_l0, ↓oNe_l0, ↓oEq_t0, ↓oNe_t0, ↓oLt_ii, ↓oLe_ii, ↓oGt_ii, ↓oGe_ii, ↓oSub_ii, ↓oAdd_ii, ↓u_lenT, ↓u_lenL, ↓u_isnon, ↓u_ixtup0, ↓u_ixlst0, ↓u_ixtup1, ↓u_ixlst1, ↓u_ixtup2, ↓u_ixlst2, ↓u_ixtup3, ↓u_ixlst3, ↓u_ixtup4, ↓u_ixlst4, ↓u_ixtup5, ↓u_ixlst5, ↓u_v0, ↓u_s0, ↓u_v1, ↓u_s1, ↓u_v2, ↓u_s2, ↓u_v3, ↓u_s3, ↓u_v4, ↓u_s4, ↓u_v5, ↓u_s5, ↓u_v6, ↓u_s6, ↓u_v7, ↓u_s7, ↓u_v8, ↓u_s8, ↓u_v9, ↓u_s9, ↓u_v10, ↓u_s10, ↓u_v11, ↓u_s11, ↓u_v12, ↓u_s12, ↓u_v13, ↓u_s13, ↓u_v14, ↓u_s14, ↓u_v15, ↓u_s15, ↓u_v16, ↓u_s16, ↓u_v17, ↓u_s17, ↓u_v18, ↓u_s18, ↓u_v19, ↓u_s19, if_true, if_false, Bool.false_eq_true, Bool.not_true, Bool.not_false, Bool.true_and, Bool.false_and, Bool.and_true, Bool.and_false, Bool.or_true, Bool.or_false, Bool.true_or, Bool.false_or, true_and, and_true, Option.isSome_some, List.length_cons, List.length_nil, ofS_beq, String.reduceBEq, sp_is_instruction, iff_b1, gt_mem g1 hx]
          exact q'
        · have hb : (rows.all fun r => builtT formsL r 0) = rows.all fun r => builtT formsL r n := by
            congr 1
            funext r
            exact built_free r 0 n
          simp only [↓u_sRet, ↓u_sRetN, ↓u_sNext, ↓u_sBrk, ↓u_sCont, ↓u_sSeq, ↓u_sDrop, ↓u_sIf, ↓u_wNil, ↓u_wCons, ↓u_wTup, ↓u_wLst, ↓u_wTst, ↓u_wTru, ↓u_wAnd, ↓u_wOr, ↓u_wNot, ↓u_wAndV, ↓u_wOrV, ↓u_wNotV, ↓u_wIfE, ↓u_wC, ↓u_wOp, ↓u_wUn, ↓u_wCall, ↓u_wChain, ↓u_wIsi, ↓u_wPart, ↓u_wNoPart, ↓u_wSl, ↓u_slT, ↓u_slL, ↓u_wMeth, ↓u_wKGet, ↓u_wInK, ↓u_sAsg, ↓u_exbl, ↓u_exint, ↓u_exstr, ↓u_exref, ↓u_exsome, ↓u_trubl, ↓u_truint, ↓u_trunon, ↓u_trulst, ↓u_trutup, ↓oEq_ss, ↓oEq_ii, ↓oEq_bb, ↓oEq_ni, ↓oNe_ss, ↓oNe_ii, ↓oNe_bb, ↓oEq_l0, ↓oNe_l0, ↓oEq_t0, ↓oNe_t0, ↓oLt_ii, ↓oLe_ii, ↓oGt_ii, ↓oGe_ii, ↓oSub_ii, ↓oAdd_ii, ↓u_lenT, ↓u_lenL, ↓u_isnon, ↓u_ixtup0, ↓u_ixlst0, ↓u_ixtup1, ↓u_ixlst1, ↓u_ixtup2, ↓u_ixlst2, ↓u_ixtup3, ↓u_ixlst3, ↓u_ixtup4, ↓u_ixlst4, ↓u_ixtup5, ↓u_ixlst5, ↓u_v0, ↓u_s0, ↓u_v1, ↓u_s1, ↓u_v2, ↓u_s2, ↓u_v3, ↓u_s3, ↓u_v4, ↓u_s4, ↓u_v5, ↓u_s5, ↓u_v6, ↓u_s6, ↓u_v7, ↓u_s7, ↓u_v8, ↓u_s8, ↓u_v9, ↓u_s9, ↓u_v10, ↓u_s10, ↓u_v11, ↓u_s11, ↓u_v12, ↓u_s12, ↓u_v13, ↓u_s13, ↓u_v14, ↓u_s14, ↓u_v15, ↓u_s15, ↓u_v16, ↓u_s16, ↓u_v17, ↓u_s17, ↓u_v18, ↓u_s18, ↓u_v19, ↓u_s19, if_true, if_false, Bool.false_eq_true, Bool.not_true, Bool.not_false, Bool.true_and, Bool.false_and, Bool.and_true, Bool.and_false, Bool.or_true, Bool.or_false, Bool.true_or, Bool.false_or, true_and, and_true, Option.isSome_some, List.length_cons, List.length_nil, ofS_beq, String.reduceBEq, iff_term, g2]
          rw [hb]
          cases hr : rows.all fun r => builtT formsL r n
          · rw [hr] at q; simpa using q
          · rw [hr] at q; simpa using q
      | _ => simp only [↓u_sRet, ↓u_sRetN, ↓u_sNext, ↓u_sBrk, ↓u_sCont, ↓u_sSeq, ↓u_sDrop, ↓u_sIf, ↓u_wNil, ↓u_wCons, ↓u_wTup, ↓u_wLst, ↓u_wTst, ↓u_wTru, ↓u_wAnd, ↓u_wOr, ↓u_wNot, ↓u_wAndV, ↓u_wOrV, ↓u_wNotV, ↓u_wIfE, ↓u_wC, ↓u_wOp, ↓u_wUn, ↓u_wCall, ↓u_wChain, ↓u_wIsi, ↓u_wPart, ↓u_wNoPart, ↓u_wSl, ↓u_slT, ↓u_slL, ↓u_wMeth, ↓u_wKGet, ↓u_wInK, ↓u_sAsg, ↓u_exbl, ↓u_exint, ↓u_exstr, ↓u_exref, ↓u_exsome, ↓u_trubl, ↓u_truint, ↓u_trunon, ↓u_trulst, ↓u_trutup, ↓oEq_ss, ↓oEq_ii, ↓oEq_bb, ↓oEq_ni, ↓oNe_ss, ↓oNe_ii, ↓oNe_bb, ↓oEq_l0, ↓oNe_l0, ↓oEq_t0, ↓oNe_t0, ↓oLt_ii, ↓oLe_ii, ↓oGt_ii, ↓oGe_ii, ↓oSub_ii, ↓oAdd_ii, ↓u_lenT, ↓u_lenL, ↓u_isnon, ↓u_ixtup0, ↓u_ixlst0, ↓u_ixtup1, ↓u_ixlst1, ↓u_ixtup2, ↓u_ixlst2, ↓u_ixtup3, ↓u_ixlst3, ↓u_ixtup4, ↓u_ixlst4, ↓u_ixtup5, ↓u_ixlst5, ↓u_v0, ↓u_s0, ↓u_v1, ↓u_s1, ↓u_v2, ↓u_s2, ↓u_v3, ↓u_s3, ↓u_v4, ↓u_s4, ↓u_v5, ↓u_s5, ↓u_v6, ↓u_s6, ↓u_v7, ↓u_s7, ↓u_v8, ↓u_s8, ↓u_v9, ↓u_s9, ↓u_v10, ↓u_s10, ↓u_v11, ↓u_s11, ↓u_v12, ↓u_s12, ↓u_v13, ↓u_s13, ↓u_v14, ↓u_s14, ↓u_v15, ↓u_s15, ↓u_v16, ↓u_s16, ↓u_v17, ↓u_s17, ↓u_v18, ↓u_s18, ↓u_v19, ↓u_s19, if_true, if_false, Bool.false_eq_true, Bool.not_true, Bool.not_false, Bool.true_and, Bool.false_and, Bool.and_true, Bool.and_false, Bool.or_true, Bool.or_false, Bool.true_or, Bool.false_or, true_and, and_true, Option.isSome_some, List.length_cons, List.length_nil, ofS_beq, String.reduceBEq, i1, i2, j1, j2]; exact q
  | _ => simp only [↓u_sRet, ↓u_sRetN, ↓u_sNext, ↓u_sBrk, ↓u_sCont, ↓u_sSeq, ↓u_sDrop, ↓u_sIf, ↓u_wNil, ↓u_wCons, ↓u_wTup, ↓u_wLst, ↓u_wTst, ↓u_wTru, ↓u_wAnd, ↓u_wOr, ↓u_wNot, ↓u_wAndV, ↓u_wOrV, ↓u_wNotV, ↓u_wIfE, ↓u_wC, ↓u_wOp, ↓u_wUn, ↓u_wCall, ↓u_wChain, ↓u_wIsi, ↓u_wPart, ↓u_wNoPart, ↓u_wSl, ↓u_slT, ↓u_slL, ↓u_wMeth, ↓u_wKGet, ↓u_wInK, ↓u_sAsg, ↓u_exbl, ↓u_exint, ↓u_exstr, ↓u_exref, ↓u_exsome, ↓u_trubl, ↓u_truint, ↓u_trunon, ↓u_trulst, ↓u_trutup, ↓oEq_ss, ↓oEq_ii, ↓oEq_bb, ↓oEq_ni, ↓oNe_ss, ↓oNe_ii, ↓oNe_bb, ↓oEq_l0, ↓oNe_l0, ↓oEq_t0, ↓oNe_t0, ↓oLt_ii, ↓oLe_ii, ↓oGt_ii, ↓oGe_ii, ↓oSub_ii, ↓oAdd_ii, ↓u_lenT, ↓u_lenL, ↓u_isnon, ↓u_ixtup0, ↓u_ixlst0, ↓u_ixtup1, ↓u_ixlst1, ↓u_ixtup2, ↓u_ixlst2, ↓u_ixtup3, ↓u_ixlst3, ↓u_ixtup4, ↓u_ixlst4, ↓u_ixtup5, ↓u_ixlst5, ↓u_v0, ↓u_s0, ↓u_v1, ↓u_s1, ↓u_v2, ↓u_s2, ↓u_v3, ↓u_s3, ↓u_v4, ↓u_s4, ↓u_v5, ↓u_s5, ↓u_v6, ↓u_s6, ↓u_v7, ↓u_s7, ↓u_v8, ↓u_s8, ↓u_v9, ↓u_s9, ↓u_v10, ↓u_s10, ↓u_v11, ↓u_s11, ↓u_v12, ↓u_s12, ↓u_v13, ↓u_s13, ↓u_v14, ↓u_s14, ↓u_v15, ↓u_s15, ↓u_v16, ↓u_s16, ↓u_v17, ↓u_s17, ↓u_v18, ↓u_s18, ↓u_v19, ↓u_s19, if_true, if_false, Bool.false_eq_true, Bool.not_true, Bool.not_false, Bool.true_and, Bool.false_and, Bool.and_true, Bool.and_false, Bool.or_true, Bool.or_false, Bool.true_or, Bool.false_or, true_and, and_true, Option.isSome_some, List.length_cons, List.length_nil, ofS_beq, String.reduceBEq, i1, i2]; exact q
end TL.K

set_option Elab.async false
set_option linter.all false
set_option maxRecDepth 100000
set_option maxHeartbeats 8000000
namespace TL.K
open PySem L2 PyProof.Rows
theorem block_shape {b : T} {n : Int} (h : blockT b n = true) : ∃ rows e, b = .tup [.tup rows, e] := by
  cases b with
  | tup ts =>
    match ts, h with
    | [x, e], h =>
      cases x with
      | tup rows => exact ⟨rows, e, rfl⟩
      | _ => simp [blockT] at h
    | [], h => simp [blockT] at h
    | [_], h => simp [blockT] at h
    | _ :: _ :: _ :: _, h => simp [blockT] at h
  | _ => simp [blockT] at h
theorem ok_is_graph_value : ∀ ts S R, sp_is_graph_value ts S R → w_is_graph_value { nx := fun _ S' => R .non S', rt := R } (startT n_is_graph_value ts) S := by
  rintro ts S R ⟨t, rfl, g, q⟩
  rw [show startT n_is_graph_value [t] = [some t, none] from rfl]
  unfold w_is_graph_value
  have hsl := sizeLine_eq
  have h0 : (0 : Nat) ≤ sizeLine := Nat.zero_le _
  have i1 := (gt_isa g).2.2.2
  have i2 := gt_ty g
  cases t with
  | tup ts =>
    match ts, g, i1, i2, q with
    | [], g, i1, i2, q => simp only [↓u_sRet, ↓u_sRetN, ↓u_sNext, ↓u_sBrk, ↓u_sCont, ↓u_sSeq, ↓u_sDrop, ↓u_sIf, ↓u_wNil, ↓u_wCons, ↓u_wTup, ↓u_wLst, ↓u_wTst, ↓u_wTru, ↓u_wAnd, ↓u_wOr, ↓u_wNot, ↓u_wAndV, ↓u_wOrV, ↓u_wNotV, ↓u_wIfE, ↓u_wC, ↓u_wOp, ↓u_wUn, ↓u_wCall, ↓u_wChain, ↓u_wIsi, ↓u_wPart, ↓u_wNoPart, ↓u_wSl, ↓u_slT, ↓u_slL, ↓u_wMeth, ↓u_wKGet, ↓u_wInK, ↓u_sAsg, ↓u_exbl, ↓u_exint, ↓u_exstr, ↓u_exref, ↓u_exsome, ↓u_trubl, ↓u_truint, ↓u_trunon, ↓u_trulst, ↓u_trutup, ↓oEq_ss, ↓oEq_ii, ↓oEq_bb, ↓oEq_ni, ↓oNe_ss, ↓oNe_ii, ↓oNe_bb, ↓oEq_l0, ↓oNe_l0, ↓oEq_t0, ↓oNe_t0, ↓oLt_ii, ↓oLe_ii, ↓oGt_ii, ↓oGe_ii, ↓oSub_ii, ↓oAdd_ii, ↓u_lenT, ↓u_lenL, ↓u_isnon, ↓u_ixtup0, ↓u_ixlst0, ↓u_ixtup1, ↓u_ixlst1, ↓u_ixtup2, ↓u_ixlst2, ↓u_ixtup3, ↓u_ixlst3, ↓u_ixtup4, ↓u_ixlst4, ↓u_ixtup5, ↓u_ixlst5, ↓u_v0, ↓u_s0, ↓u_v1, ↓u_s1, ↓u_v2, ↓u_s2, ↓u_v3, ↓u_s3, ↓u_v4, ↓u_s4, ↓u_v5, ↓u_s5, ↓u_v6, ↓u_s6, ↓u_v7, ↓u_s7, ↓u_v8, ↓u_s8, ↓u_v9, ↓u_s9, ↓u_v10, ↓u_s10, ↓u_v11, ↓u_s11, ↓u_v12, ↓u_s12, ↓u_v13, ↓u_s13, ↓u_v14, ↓u_s14, ↓u_v15, ↓u_s15, ↓u_v16, ↓u_s16, ↓u_v17, ↓u_s17, ↓u_v18, ↓u_s18, ↓u_v19, ↓u_s19, if_true, if_false, Bool.false_eq_true, Bool.not_true, Bool.not_false, Bool.true_and, Bool.false_and, Bool.and_true, Bool.and_false, Bool.or_true, Bool.or_false, Bool.true_or, Bool.false_or, true_and, and_true, Option.isSome_some, List.length_cons, List.length_nil, ofS_beq, String.reduceBEq, i1, i2]; exact q
    | [x], g, i1, i2, q => simp only [↓u_sRet, ↓u_sRetN, ↓u_sNext, ↓u_sBrk, ↓u_sCont, ↓u_sSeq, ↓u_sDrop, ↓u_sIf, ↓u_wNil, ↓u_wCons, ↓u_wTup, ↓u_wLst, ↓u_wTst, ↓u_wTru, ↓u_wAnd, ↓u_wOr, ↓u_wNot, ↓u_wAndV, ↓u_wOrV, ↓u_wNotV, ↓u_wIfE, ↓u_wC, ↓u_wOp, ↓u_wUn, ↓u_wCall, ↓u_wChain, ↓u_wIsi, ↓u_wPart, ↓u_wNoPart, ↓u_wSl, ↓u_slT, ↓u_slL, ↓u_wMeth, ↓u_wKGet, ↓u_wInK, ↓u_sAsg, ↓u_exbl, ↓u_exint, ↓u_exstr, ↓u_exref, ↓u_exsome, ↓u_trubl, ↓u_truint, ↓u_trunon, ↓u_trulst, ↓u_trutup, ↓oEq_ss, ↓oEq_ii, ↓oEq_bb, ↓oEq_ni, ↓oNe_ss, ↓oNe_ii, ↓oNe_bb, ↓oEq_l0, ↓oNe_l0, ↓oEq_t0, ↓oNe_t0, ↓oLt_ii, ↓oLe_ii, ↓oGt_ii, ↓oGe_ii, ↓oSub_ii, ↓oAdd_ii, ↓u_lenT, ↓u_lenL, ↓u_isnon, ↓u_ixtup0, ↓u_ixlst0, ↓u_ixtup1, ↓u_ixlst1, ↓u_ixtup2, ↓u_ixlst2, ↓u_ixtup3, ↓u_ixlst3, ↓u_ixtup4, ↓u_ixlst4, ↓u_ixtup5, ↓u_ixlst5, ↓u_v0, ↓u_s0, ↓u_v1, ↓u_s1, ↓u_v2, ↓u_s2, ↓u_v3, ↓u_s3, ↓u_v4, ↓u_s4, ↓u_v5, ↓u_s5, ↓u_v6, ↓u_s6, ↓u_v7, ↓u_s7, ↓u_v8, ↓u_s8, ↓u_v9, ↓u_s9, ↓u_v10, ↓u_s10, ↓u_v11, ↓u_s11, ↓u_v12, ↓u_s12, ↓u_v13, ↓u_s13, ↓u_v14, ↓u_s14, ↓u_v15, ↓u_s15, ↓u_v16, ↓u_s16, ↓u_v17, ↓u_s17, ↓u_v18, ↓u_s18, ↓u_v19, ↓u_s19, if_true, if_false, Bool.false_eq_true, Bool.not_true, Bool.not_false, Bool.true_and, Bool.false_and, Bool.and_true, Bool.and_false, Bool.or_true, Bool.or_false, Bool.true_or, Bool.false_or, true_and, and_true, Option.isSome_some, List.length_cons, List.length_nil, ofS_beq, String.reduceBEq, i1, i2]; exact q
    | x :: y :: z :: l, g, i1, i2, q =>
      simp only [↓u_sRet, ↓u_sRetN, ↓u_sNext, ↓u_sBrk, ↓u_sCont, ↓u_sSeq, ↓u_sDrop, ↓u_sIf, ↓u_wNil, ↓u_wCons, ↓u_wTup, ↓u_wLst, ↓u_wTst, ↓u_wTru, ↓u_wAnd, ↓u_wOr, ↓u_wNot, ↓u_wAndV, ↓u_wOrV, ↓u_wNotV, ↓u_wIfE, ↓u_wC, ↓u_wOp, ↓u_wUn, ↓u_wCall, ↓u_wChain, ↓u_wIsi, ↓u_wPart, ↓u_wNoPart, ↓u_wSl, ↓u_slT, ↓u_slL, ↓u_wMeth, ↓u_wKGet, ↓u_wInK, ↓u_sAsg, ↓u_exbl, ↓u_exint, ↓u_exstr, ↓u_exref, ↓u_exsome, ↓u_trubl, ↓u_truint, ↓u_trunon, ↓u_trulst, ↓u_trutup, ↓oEq_ss, ↓oEq_ii, ↓oEq_bb, ↓oEq_ni, ↓oNe_ss, ↓oNe_ii, ↓oNe_bb, ↓oEq_l0, ↓oNe_l0, ↓oEq_t0, ↓oNe_t0, ↓oLt_ii, ↓oLe_ii, ↓oGt_ii, ↓oGe_ii, ↓oSub_ii, ↓oAdd_ii, ↓u_lenT, ↓u_lenL, ↓u_isnon, ↓u_ixtup0, ↓u_ixlst0, ↓u_ixtup1, ↓u_ixlst1, ↓u_ixtup2, ↓u_ixlst2, ↓u_ixtup3, ↓u_ixlst3, ↓u_ixtup4, ↓u_ixlst4, ↓u_ixtup5, ↓u_ixlst5, ↓u_v0, ↓u_s0, ↓u_v1, ↓u_s1, ↓u_v2, ↓u_s2, ↓u_v3, ↓u_s3, ↓u_v4, ↓u_s4, ↓u_v5, ↓u_s5, ↓u_v6, ↓u_s6, ↓u_v7, ↓u_s7, ↓u_v8, ↓u_s8, ↓u_v9, ↓u_s9, ↓u_v10, ↓u_s10, ↓u_v11, ↓u_s11, ↓u_v12, ↓u_s12, ↓u_v13, ↓u_s13, ↓u_v14, ↓u_s14, ↓u_v15, ↓u_s15, ↓u_v16, ↓u_s16, ↓u_v17, ↓u_s17, ↓u_v18, ↓u_s18, ↓u_v19, ↓u_s19, if_true, if_false, Bool.false_eq_true, Bool.not_true, Bool.not_false, Bool.true_and, Bool.false_and, Bool.and_true, Bool.and_false, Bool.or_true, Bool.or_false, Bool.true_or, Bool.false_or, true_and, and_true, Option.isSome_some, List.length_cons, List.length_nil, ofS_beq, String.reduceBEq, i1, i2]
      rw [if_pos (by simp; omega)]
      exact q
    | [c, x], g, i1, i2, q =>
      obtain ⟨p1, p2, g1, g2⟩ := gt2 g
      have j1 := (gt_isa g2).2.2.2
      have j2 := gt_ty g2
      cases x with
      | tup bs =>
        cases bs with
        | nil =>
          simp only [↓u_sRet, ↓u_sRetN, ↓u_sNext, ↓u_sBrk, ↓u_sCont, ↓u_sSeq, ↓u_sDrop, ↓u_sIf, ↓u_wNil, ↓u_wCons, ↓u_wTup, ↓u_wLst, ↓u_wTst, ↓u_wTru, ↓u_wAnd, ↓u_wOr, ↓u_wNot, ↓u_wAndV, ↓u_wOrV, ↓u_wNotV, ↓u_wIfE, ↓u_wC, ↓u_wOp, ↓u_wUn, ↓u_wCall, ↓u_wChain, ↓u_wIsi, ↓u_wPart, ↓u_wNoPart, ↓u_wSl, ↓u_slT, ↓u_slL, ↓u_wMeth, ↓u_wKGet, ↓u_wInK, ↓u_sAsg, ↓u_exbl, ↓u_exint, ↓u_exstr, ↓u_exref, ↓u_exsome, ↓u_trubl, ↓u_truint, ↓u_trunon, ↓u_trulst, ↓u_trutup, ↓oEq_ss, ↓oEq_ii, ↓oEq_bb, ↓oEq_ni, ↓oNe_ss, ↓oNe_ii, ↓oNe_bb, ↓oEq_l0, ↓oNe_l0, ↓oEq_t0, ↓oNe_t0, ↓oLt_ii, ↓oLe_ii, ↓oGt_ii, ↓oGe_ii, ↓oSub_ii, ↓oAdd_ii, ↓u_lenT, ↓u_lenL, ↓u_isnon, ↓u_ixtup0, ↓u_ixlst0, ↓u_ixtup1, ↓u_ixlst1, ↓u_ixtup2, ↓u_ixlst2, ↓u_ixtup3, ↓u_ixlst3, ↓u_ixtup4, ↓u_ixlst4, ↓u_ixtup5, ↓u_ixlst5, ↓u_v0, ↓u_s0, ↓u_v1, ↓u_s1, ↓u_v2, ↓u_s2, ↓u_v3, ↓u_s3, ↓u_v4, ↓u_s4, ↓u_v5, ↓u_s5, ↓u_v6, ↓u_s6, ↓u_v7, ↓u_s7, ↓u_v8, ↓u_s8, ↓u_v9, ↓u_s9, ↓u_v10, ↓u_s10, ↓u_v11, ↓u_s11, ↓u_v12, ↓u_s12, ↓u_v13, ↓u_s13, ↓u_v14, ↓u_s14, ↓u_v15, ↓u_s15, ↓u_v16, ↓u_s16, ↓u_v17, ↓u_s17, ↓u_v18, ↓u_s18, ↓u_v19, ↓u_s19, if_true, if_false, Bool.false_eq_true, Bool.not_true, Bool.not_false, Bool.true_and, Bool.false_and, Bool.and_true, Bool.and_false, Bool.or_true, Bool.or_false, Bool.true_or, Bool.false_or, true_and, and_true, Option.isSome_some, List.length_cons, List.length_nil, ofS_beq, String.reduceBEq, i1, i2, j1, j2, h0]
          simpa [graphT] using q
        | cons b0 bs0 =>
          generalize hbs : b0 :: bs0 = bs at *
          have hne : bs.isEmpty = false := by rw [← hbs]; rfl
          simp only [graphT, hne] at q
          cases c with
          | int i =>
            simp only [↓u_sRet, ↓u_sRetN, ↓u_sNext, ↓u_sBrk, ↓u_sCont, ↓u_sSeq, ↓u_sDrop, ↓u_sIf, ↓u_wNil, ↓u_wCons, ↓u_wTup, ↓u_wLst, ↓u_wTst, ↓u_wTru, ↓u_wAnd, ↓u_wOr, ↓u_wNot, ↓u_wAndV, ↓u_wOrV, ↓u_wNotV, ↓u_wIfE, ↓u_wC, ↓u_wOp, ↓u_wUn, ↓u_wCall, ↓u_wChain, ↓u_wIsi, ↓u_wPart, ↓u_wNoPart, ↓u_wSl, ↓u_slT, ↓u_slL, ↓u_wMeth, ↓u_wKGet, ↓u_wInK, ↓u_sAsg, ↓u_exbl, ↓u_exint, ↓u_exstr, ↓u_exref, ↓u_exsome, ↓u_trubl, ↓u_truint, ↓u_trunon, ↓u_trulst, ↓u_trutup, ↓oEq_ss, ↓oEq_ii, ↓oEq_bb, ↓oEq_ni, ↓oNe_ss, ↓oNe_ii, ↓oNe_bb, ↓oEq_l0, ↓oNe_l0, ↓oEq_t0, ↓oNe_t0, ↓oLt_ii, ↓oLe_ii, ↓oGt_ii, ↓oGe_ii, ↓oSub_ii, ↓oAdd_ii, ↓u_lenT, ↓u_lenL, ↓u_isnon, ↓u_ixtup0, ↓u_ixlst0, ↓u_ixtup1, ↓u_ixlst1, ↓u_ixtup2, ↓u_ixlst2, ↓u_ixtup3, ↓u_ixlst3, ↓u_ixtup4, ↓u_ixlst4, ↓u_ixtup5, ↓u_ixlst5, ↓u_v0, ↓u_s0, ↓u_v1, ↓u_s1, ↓u_v2, ↓u_s2, ↓u_v3, ↓u_s3, ↓u_v4, ↓u_s4, ↓u_v5, ↓u_s5, ↓u_v6, ↓u_s6, ↓u_v7, ↓u_s7, ↓u_v8, ↓u_s8, ↓u_v9, ↓u_s9, ↓u_v10, ↓u_s10, ↓u_v11, ↓u_s11, ↓u_v12, ↓u_s12, ↓u_v13, ↓u_s13, ↓u_v14, ↓u_s14, ↓u_v15, ↓u_s15, ↓u_v16, ↓u_s16, ↓u_v17, ↓u_s17, ↓u_v18, ↓u_s18, ↓u_v19, ↓u_s19, if_true, if_false, Bool.false_eq_true, Bool.not_true, Bool.not_false, Bool.true_and, Bool.false_and, Bool.and_true, Bool.and_false, Bool.or_true, Bool.or_false, Bool.true_or, Bool.false_or, true_and, and_true, Option.isSome_some, List.length_cons, List.length_nil, ofS_beq, String.reduceBEq, i1, i2, j1, j2, h0, hne, sp_is_integer, iff_b1, g1]
            rw [if_neg (by simp)]
            simp only [wordT] at q
            by_cases hi : 0 ≤ i
            · rw [if_pos (by simpa using hi)]
              by_cases hj : i ≤ 4
              · rw [if_neg (by simpa using hj)]
                rw [decide_eq_true hi, decide_eq_true (show i < 5 by omega)] at q
                refine wLc_map (t := .tup bs) (ts := bs) (fun x => .bl (blockT x ((bs.length : Nat) : Int))) (fun R' q' => ?_) rfl (by have := gt_len g2; omega) (fun x hx => ?_) (oAll_map ?_)
                · simp only [↓u_sRet, ↓u_sRetN, ↓u_sNext, ↓u_sBrk, ↓u_sCont, ↓u_sSeq, ↓u_sDrop, ↓u_sIf, ↓u_wNil, ↓u_wCons, ↓u_wTup, ↓u_wLst, ↓u_wTst, ↓u_wTru, ↓u_wAnd, ↓u_wOr, ↓u_wNot, ↓u_wAndV, ↓u_wOrV, ↓u_wNotV, ↓u_wIfE, ↓u_wC, ↓u_wOp, ↓u_wUn, ↓u_wCall, ↓u_wChain, ↓u_wIsi, ↓u_wPart, ↓u_wNoPart, ↓u_wSl, ↓u_slT, ↓u_slL, ↓u_wMeth, ↓u_wKGet, ↓u_wInK, ↓u_sAsg, ↓u_exbl, ↓u_exint, ↓u_exstr, ↓u_exref, ↓u_exsome, ↓u_trubl, ↓u_truint, ↓u_trunon, ↓u_trulst, ↓u_trutup, ↓oEq_ss, ↓oEq_ii, ↓oEq_bb, ↓oEq_ni, ↓oNe_ss, ↓oNe_ii, ↓oNe_bb, ↓oEq_l0, ↓oNe_l0, ↓oEq_t0, ↓oNe_t0, ↓oLt_ii, ↓oLe_ii, ↓oGt_ii, ↓oGe_ii, ↓oSub_ii, ↓oAdd_ii, ↓u_lenT, ↓u_lenL, ↓u_isnon, ↓u_ixtup0, ↓u_ixlst0, ↓u_ixtup1, ↓u_ixlst1, ↓u_ixtup2, ↓u_ixlst2, ↓u_ixtup3, ↓u_ixlst3, ↓u_ixtup4, ↓u_ixlst4, ↓u_ixtup5, ↓u_ixlst5, ↓u_v0, ↓u_s0, ↓u_v1, ↓u_s1, ↓u_v2, ↓u_s2, ↓u_v3, ↓u_s3, ↓u_v4, ↓u_s4, ↓u_v5, ↓u_s5, ↓u_v6, ↓u_s6, ↓u_v7, ↓u_s7, ↓u_v8, ↓u_s8, ↓u_v9, ↓u_s9, ↓u_v10, ↓u_s10, ↓u_v11, ↓u_s11, ↓u_v12, ↓u_s12, ↓u_v13, ↓u_s13, ↓u_v14, ↓u_s14, ↓u_v15, ↓u_s15, ↓u_v16, ↓u_s16, ↓u_v17, ↓u_s17, ↓u_v18, ↓u_s18, ↓u_v19, ↓u_s19, if_true, if_false, Bool.false_eq_true, Bool.not_true, Bool.not_false, Bool.true_and, Bool.false_and, Bool.and_true, Bool.and_false, Bool.or_true, Bool.or_false, Bool.true_or, Bool.false_or, true_and, and_true, Option.isSome_some, List.length_cons, List.length_nil, ofS_beq, String.reduceBEq]; exact q'
                · refine ⟨_, rfl, fun R' q' => ?_⟩
                  show wCall sp_is_block _ [some (T.tup [.int i, .tup bs]), some x] S R'
                  simp only [↓u_sRet, ↓u_sRetN, ↓u_sNext, ↓u_sBrk, ↓u_sCont, ↓u_sSeq, ↓u_sDrop, ↓u_sIf, ↓u_wNil, ↓u_wCons, ↓u_wTup, ↓u_wLst, ↓u_wTst, ↓u_wTru, ↓u_wAnd, ↓u_wOr, ↓u_wNot, ↓u_wAndV, ↓u_wOrV, ↓u_wNotV, ↓u_wIfE, ↓u_wC, ↓u_wOp, ↓u_wUn, ↓u_wCall, ↓u_wChain, ↓u_wIsi, ↓u_wPart, ↓u_wNoPart, ↓u_wSl, ↓u_slT, ↓u_slL, ↓u_wMeth, ↓u_wKGet, ↓u_wInK, ↓u_sAsg, ↓u_exbl, ↓u_exint, ↓u_exstr, ↓u_exref, ↓u_exsome, ↓u_trubl, ↓u_truint, ↓u_trunon, ↓u_trulst, ↓u_trutup, ↓oEq_ss, ↓oEq_ii, ↓oEq_bb, ↓oEq_ni, ↓oNe_ss, ↓oNe_ii, ↓oNe_bb, ↓oEq_l0, ↓oNe_l0, ↓oEq_t0, ↓oNe_t0, ↓oLt_ii, ↓oLe_ii, ↓oGt_ii, ↓oGe_ii, ↓oSub_ii, ↓oAdd_ii, ↓u_lenT, ↓u_lenL, ↓u_isnon, ↓u_ixtup0, ↓u_ixlst0, ↓u_ixtup1, ↓u_ixlst1, ↓u_ixtup2, ↓u_ixlst2, ↓u_ixtup3, ↓u_ixlst3, ↓u_ixtup4, ↓u_ixlst4, ↓u_ixtup5, ↓u_ixlst5, ↓u_v0, ↓u_s0, ↓u_v1, ↓u_s1, ↓u_v2, ↓u_s2, ↓u_v3, ↓u_s3, ↓u_v4, ↓u_s4, ↓u_v5, ↓u_s5, ↓u_v6, ↓u_s6, ↓u_v7, ↓u_s7, ↓u_v8, ↓u_s8, ↓u_v9, ↓u_s9, ↓u_v10, ↓u_s10, ↓u_v11, ↓u_s11, ↓u_v12, ↓u_s12, ↓u_v13, ↓u_s13, ↓u_v14, ↓u_s14, ↓u_v15, ↓u_s15, ↓u_v16, ↓u_s16, ↓u_v17, ↓u_s17, ↓u_v18, ↓u_s18, ↓u_v19, ↓u_s19, if_true, if_false, Bool.false_eq_true, Bool.not_true, Bool.not_false, Bool.true_and, Bool.false_and, Bool.and_true, Bool.and_false, Bool.or_true, Bool.or_false, Bool.true_or, Bool.false_or, true_and, and_true, Option.isSome_some, List.length_cons, List.length_nil, ofS_beq, String.reduceBEq, iff_block, gt_mem g2 hx]
                  exact q'
                · simp only [↓u_sRet, ↓u_sRetN, ↓u_sNext, ↓u_sBrk, ↓u_sCont, ↓u_sSeq, ↓u_sDrop, ↓u_sIf, ↓u_wNil, ↓u_wCons, ↓u_wTup, ↓u_wLst, ↓u_wTst, ↓u_wTru, ↓u_wAnd, ↓u_wOr, ↓u_wNot, ↓u_wAndV, ↓u_wOrV, ↓u_wNotV, ↓u_wIfE, ↓u_wC, ↓u_wOp, ↓u_wUn, ↓u_wCall, ↓u_wChain, ↓u_wIsi, ↓u_wPart, ↓u_wNoPart, ↓u_wSl, ↓u_slT, ↓u_slL, ↓u_wMeth, ↓u_wKGet, ↓u_wInK, ↓u_sAsg, ↓u_exbl, ↓u_exint, ↓u_exstr, ↓u_exref, ↓u_exsome, ↓u_trubl, ↓u_truint, ↓u_trunon, ↓u_trulst, ↓u_trutup, ↓oEq_ss, ↓oEq_ii, ↓oEq_bb, ↓oEq_ni, ↓oNe_ss, ↓oNe_ii, ↓oNe_bb, ↓oEq_l0, ↓oNe_l0, ↓oEq_t0, ↓oNe_t0, ↓oLt_ii, ↓oLe_ii, ↓oGt_ii, ↓oGe_ii, ↓oSub_ii, ↓oAdd_ii, ↓u_lenT, ↓u_lenL, ↓u_isnon, ↓u_ixtup0, ↓u_ixlst0, ↓u_ixtup1, ↓u_ixlst1, ↓u_ixtup2, ↓u_ixlst2, ↓u_ixtup3, ↓u_ixlst3, ↓u_ixtup4, ↓u_ixlst4, ↓u_ixtup5, ↓u_ixlst5, ↓u_v0, ↓u_s0, ↓u_v1, ↓u_s1, ↓u_v2, ↓u_s2, ↓u_v3, ↓u_s3, ↓u_v4, ↓u_s4, ↓u_v5, ↓u_s5, ↓u_v6, ↓u_s6, ↓u_v7, ↓u_s7, ↓u_v8, ↓u_s8, ↓u_v9, ↓u_s9, ↓u_v10, ↓u_s10, ↓u_v11, ↓u_s11, ↓u_v12, ↓u_s12, ↓u_v13, ↓u_s13, ↓u_v14, ↓u_s14, ↓u_v15, ↓u_s15, ↓u_v16, ↓u_s16, ↓u_v17, ↓u_s17, ↓u_v18, ↓u_s18, ↓u_v19, ↓u_s19, if_true, if_false, Bool.false_eq_true, Bool.not_true, Bool.not_false, Bool.true_and, Bool.false_and, Bool.and_true, Bool.and_false, Bool.or_true, Bool.or_false, Bool.true_or, Bool.false_or, true_and, and_true, Option.isSome_some, List.length_cons, List.length_nil, ofS_beq, String.reduceBEq]
                  cases hb : bs.all fun b => blockT b ((bs.length : Nat) : Int)
                  · rw [hb] at q; simpa using q
                  · rw [hb] at q
                    rw [if_pos rfl]
                    refine ⟨_, _, rfl, gt_len g2, fun b hbm => block_shape (List.all_eq_true.mp hb b hbm), ?_⟩
                    show oLe _ _ _ _
                    rw [oLe_ii]
                    simpa using q
              · rw [if_pos (by simpa using hj)]
                rw [decide_eq_false (show ¬ i < 5 by omega)] at q
                simpa using q
            · rw [if_neg (by simpa using hi)]
              rw [decide_eq_false hi] at q
              simpa using q
          | _ =>
            simp only [↓u_sRet, ↓u_sRetN, ↓u_sNext, ↓u_sBrk, ↓u_sCont, ↓u_sSeq, ↓u_sDrop, ↓u_sIf, ↓u_wNil, ↓u_wCons, ↓u_wTup, ↓u_wLst, ↓u_wTst, ↓u_wTru, ↓u_wAnd, ↓u_wOr, ↓u_wNot, ↓u_wAndV, ↓u_wOrV, ↓u_wNotV, ↓u_wIfE, ↓u_wC, ↓u_wOp, ↓u_wUn, ↓u_wCall, ↓u_wChain, ↓u_wIsi, ↓u_wPart, ↓u_wNoPart, ↓u_wSl, ↓u_slT, ↓u_slL, ↓u_wMeth, ↓u_wKGet, ↓u_wInK, ↓u_sAsg, ↓u_exbl, ↓u_exint, ↓u_exstr, ↓u_exref, ↓u_exsome, ↓u_trubl, ↓u_truint, ↓u_trunon, ↓u_trulst, ↓u_trutup, ↓oEq_ss, ↓oEq_ii, ↓oEq_bb, ↓oEq_ni, ↓oNe_ss, ↓oNe_ii, ↓oNe_bb, ↓oEq_l0, ↓oNe_l0, ↓oEq_t0, ↓oNe_t0, ↓oLt_ii, ↓oLe_ii, ↓oGt_ii, ↓oGe_ii, ↓oSub_ii, ↓oAdd_ii, ↓u_lenT, ↓u_lenL, ↓u_isnon, ↓u_ixtup0, ↓u_ixlst0, ↓u_ixtup1, ↓u_ixlst1, ↓u_ixtup2, ↓u_ixlst2, ↓u_ixtup3, ↓u_ixlst3, ↓u_ixtup4, ↓u_ixlst4, ↓u_ixtup5, ↓u_ixlst5, ↓u_v0, ↓u_s0, ↓u_v1, ↓u_s1, ↓u_v2, ↓u_s2, ↓u_v3, ↓u_s3, ↓u_v4, ↓u_s4, ↓u_v5, ↓u_s5, ↓u_v6, ↓u_s6, ↓u_v7, ↓u_s7, ↓u_v8, ↓u_s8, ↓u_v9, ↓u_s9, ↓u_v10, ↓u_s10, ↓u_v11, ↓u_s11, ↓u_v12, ↓u_s12, ↓u_v13, ↓u_s13, ↓u_v14, ↓u_s14, ↓u_v15, ↓u_s15, ↓u_v16, ↓u_s16, ↓u_v17, ↓u_s17, ↓u_v18, ↓u_s18, ↓u_v19, ↓u_s19, if_true, if_false, Bool.false_eq_true, Bool.not_true, Bool.not_false, Bool.true_and, Bool.false_and, Bool.and_true, Bool.and_false, Bool.or_true, Bool.or_false, Bool.true_or, Bool.false_or, true_and, and_true, Option.isSome_some, List.length_cons, List.length_nil, ofS_beq, String.reduceBEq, i1, i2, j1, j2, h0, hne, sp_is_integer, iff_b1, g1]
            simpa [wordT] using q
      | _ => simp only [↓u_sRet, ↓u_sRetN, ↓u_sNext, ↓u_sBrk, ↓u_sCont, ↓u_sSeq, ↓u_sDrop, ↓u_sIf, ↓u_wNil, ↓u_wCons, ↓u_wTup, ↓u_wLst, ↓u_wTst, ↓u_wTru, ↓u_wAnd, ↓u_wOr, ↓u_wNot, ↓u_wAndV, ↓u_wOrV, ↓u_wNotV, ↓u_wIfE, ↓u_wC, ↓u_wOp, ↓u_wUn, ↓u_wCall, ↓u_wChain, ↓u_wIsi, ↓u_wPart, ↓u_wNoPart, ↓u_wSl, ↓u_slT, ↓u_slL, ↓u_wMeth, ↓u_wKGet, ↓u_wInK, ↓u_sAsg, ↓u_exbl, ↓u_exint, ↓u_exstr, ↓u_exref, ↓u_exsome, ↓u_trubl, ↓u_truint, ↓u_trunon, ↓u_trulst, ↓u_trutup, ↓oEq_ss, ↓oEq_ii, ↓oEq_bb, ↓oEq_ni, ↓oNe_ss, ↓oNe_ii, ↓oNe_bb, ↓oEq_l0, ↓oNe_l0, ↓oEq_t0, ↓oNe_t0, ↓oLt_ii, ↓oLe_ii, ↓oGt_ii, ↓oGe_ii, ↓oSub_ii, ↓oAdd_ii, ↓u_lenT, ↓u_lenL, ↓u_isnon, ↓u_ixtup0, ↓u_ixlst0, ↓u_ixtup1, ↓u_ixlst1, ↓u_ixtup2, ↓u_ixlst2, ↓u_ixtup3, ↓u_ixlst3, ↓u_ixtup4, ↓u_ixlst4, ↓u_ixtup5, ↓u_ixlst5, ↓u_v0, ↓u_s0, ↓u_v1, ↓u_s1, ↓u_v2, ↓u_s2, ↓u_v3, ↓u_s3, ↓u_v4, ↓u_s4, ↓u_v5, ↓u_s5, ↓u_v6, ↓u_s6, ↓u_v7, ↓u_s7, ↓u_v8, ↓u_s8, ↓u_v9, ↓u_s9, ↓u_v10, ↓u_s10, ↓u_v11, ↓u_s11, ↓u_v12, ↓u_s12, ↓u_v13, ↓u_s13, ↓u_v14, ↓u_s14, ↓u_v15, ↓u_s15, ↓u_v16, ↓u_s16, ↓u_v17, ↓u_s17, ↓u_v18, ↓u_s18, ↓u_v19, ↓u_s19, if_true, if_false, Bool.false_eq_true, Bool.not_true, Bool.not_false, Bool.true_and, Bool.false_and, Bool.and_true, Bool.and_false, Bool.or_true, Bool.or_false, Bool.true_or, Bool.false_or, true_and, and_true, Option.isSome_some, List.length_cons, List.length_nil, ofS_beq, String.reduceBEq, i1, i2, j1, j2, h0]; exact q
  | _ => simp only [↓u_sRet, ↓u_sRetN, ↓u_sNext, ↓u_sBrk, ↓u_sCont, ↓u_sSeq, ↓u_sDrop, ↓u_sIf, ↓u_wNil, ↓u_wCons, ↓u_wTup, ↓u_wLst, ↓u_wTst, ↓u_wTru, ↓u_wAnd, ↓u_wOr, ↓u_wNot, ↓u_wAndV, ↓u_wOrV, ↓u_wNotV, ↓u_wIfE, ↓u_wC, ↓u_wOp, ↓u_wUn, ↓u_wCall, ↓u_wChain, ↓u_wIsi, ↓u_wPart, ↓u_wNoPart, ↓u_wSl, ↓u_slT, ↓u_slL, ↓u_wMeth, ↓u_wKGet, ↓u_wInK, ↓u_sAsg, ↓u_exbl, ↓u_exint, ↓u_exstr, ↓u_exref, ↓u_exsome, ↓u_trubl, ↓u_truint, ↓u_trunon, ↓u_trulst, ↓u_trutup, ↓oEq_ss, ↓oEq_ii, ↓oEq_bb, ↓oEq_ni, ↓oNe_ss, ↓oNe_ii, ↓oNe_bb, ↓oEq_l0, ↓oNe_l0, ↓oEq_t0, ↓oNe_t0, ↓oLt_ii, ↓oLe_ii, ↓oGt_ii, ↓oGe_ii, ↓oSub_ii, ↓oAdd_ii, ↓u_lenT, ↓u_lenL, ↓u_isnon, ↓u_ixtup0, ↓u_ixlst0, ↓u_ixtup1, ↓u_ixlst1, ↓u_ixtup2, ↓u_ixlst2, ↓u_ixtup3, ↓u_ixlst3, ↓u_ixtup4, ↓u_ixlst4, ↓u_ixtup5, ↓u_ixlst5, ↓u_v0, ↓u_s0, ↓u_v1, ↓u_s1, ↓u_v2, ↓u_s2, ↓u_v3, ↓u_s3, ↓u_v4, ↓u_s4, ↓u_v5, ↓u_s5, ↓u_v6, ↓u_s6, ↓u_v7, ↓u_s7, ↓u_v8, ↓u_s8, ↓u_v9, ↓u_s9, ↓u_v10, ↓u_s10, ↓u_v11, ↓u_s11, ↓u_v12, ↓u_s12, ↓u_v13, ↓u_s13, ↓u_v14, ↓u_s14, ↓u_v15, ↓u_s15, ↓u_v16, ↓u_s16, ↓u_v17, ↓u_s17, ↓u_v18, ↓u_s18, ↓u_v19, ↓u_s19, if_true, if_false, Bool.false_eq_true, Bool.not_true, Bool.not_false, Bool.true_and, Bool.false_and, Bool.and_true, Bool.and_false, Bool.or_true, Bool.or_false, Bool.true_or, Bool.false_or, true_and, and_true, Option.isSome_some, List.length_cons, List.length_nil, ofS_beq, String.reduceBEq, i1, i2]; exact q
theorem ok_is_graph : ∀ ts S R, sp_is_graph ts S R → w_is_graph { nx := fun _ S' => R .non S', rt := R } (startT n_is_graph ts) S := by
  rintro ts S R ⟨t, rfl, g, q⟩
  rw [show startT n_is_graph [t] = [some t] from rfl]
  unfold w_is_graph
  simp only [↓u_sRet, ↓u_sRetN, ↓u_sNext, ↓u_sBrk, ↓u_sCont, ↓u_sSeq, ↓u_sDrop, ↓u_sIf, ↓u_wNil, ↓u_wCons, ↓u_wTup, ↓u_wLst, ↓u_wTst, ↓u_wTru, ↓u_wAnd, ↓u_wOr, ↓u_wNot, ↓u_wAndV, ↓u_wOrV, ↓u_wNotV, ↓u_wIfE, ↓u_wC, ↓u_wOp, ↓u_wUn, ↓u_wCall, ↓u_wChain, ↓u_wIsi, ↓u_wPart, ↓u_wNoPart, ↓u_wSl, ↓u_slT, ↓u_slL, ↓u_wMeth, ↓u_wKGet, ↓u_wInK, ↓u_sAsg, ↓u_exbl, ↓u_exint, ↓u_exstr, ↓u_exref, ↓u_exsome, ↓u_trubl, ↓u_truint, ↓u_trunon, ↓u_trulst, ↓u_trutup, ↓oEq_ss, ↓oEq_ii, ↓oEq_bb, ↓oEq_ni, ↓oNe_ss, ↓oNe_ii, ↓oNe_bb, ↓oEq_l0, ↓oNe_l0, ↓oEq_t0, ↓oNe_t0, ↓oLt_ii, ↓oLe_ii, ↓oGt_ii, ↓oGe_ii, ↓oSub_ii, ↓oAdd_ii, ↓u_lenT, ↓u_lenL, ↓u_isnon, ↓u_ixtup0, ↓u_ixlst0, ↓u_ixtup1, ↓u_ixlst1, ↓u_ixtup2, ↓u_ixlst2, ↓u_ixtup3, ↓u_ixlst3, ↓u_ixtup4, ↓u_ixlst4, ↓u_ixtup5, ↓u_ixlst5, ↓u_v0, ↓u_s0, ↓u_v1, ↓u_s1, ↓u_v2, ↓u_s2, ↓u_v3, ↓u_s3, ↓u_v4, ↓u_s4, ↓u_v5, ↓u_s5, ↓u_v6, ↓u_s6, ↓u_v7, ↓u_s7, ↓u_v8, ↓u_s8, ↓u_v9, ↓u_s9, ↓u_v10, ↓u_s10, ↓u_v11, ↓u_s11, ↓u_v12, ↓u_s12, ↓u_v13, ↓u_s13, ↓u_v14, ↓u_s14, ↓u_v15, ↓u_s15, ↓u_v16, ↓u_s16, ↓u_v17, ↓u_s17, ↓u_v18, ↓u_s18, ↓u_v19, ↓u_s19, if_true, if_false, Bool.false_eq_true, Bool.not_true, Bool.not_false, Bool.true_and, Bool.false_and, Bool.and_true, Bool.and_false, Bool.or_true, Bool.or_false, Bool.true_or, Bool.false_or, true_and, and_true, Option.isSome_some, List.length_cons, List.length_nil, ofS_beq, String.reduceBEq, sp_is_graph_value, iff_b1, g]
  exact q
/-! ### the law's own look -/
theorem q_v {t : T} {n : Int} : partT (Str.ofString "v") t n = wordT t 4000 := by simp [partT, ofS_beq]
theorem q_w {t : T} {n : Int} : partT (Str.ofString "w") t n = (wordT t 4000 || isNon t) := by simp [partT, ofS_beq]
theorem q_a {t : T} {n : Int} : partT (Str.ofString "a") t n = operT t := by simp [partT, ofS_beq]
theorem q_r {t : T} {n : Int} : partT (Str.ofString "r") t n = (operT t || isNon t) := by simp [partT, ofS_beq]
theorem q_n {t : T} {n : Int} : partT (Str.ofString "n") t n = fullT t := by simp [partT, ofS_beq]
theorem q_f {t : T} {n : Int} : partT (Str.ofString "f") t n = fullT t := by simp [partT, ofS_beq]
theorem q_o {t : T} {n : Int} : partT (Str.ofString "o") t n = opsL.any fun b => isStrB t b := by simp [partT, ofS_beq]
theorem q_c {t : T} {n : Int} : partT (Str.ofString "c") t n = valueT t := by simp [partT, ofS_beq]
theorem q_s {t : T} {n : Int} : partT (Str.ofString "s") t n = opersT t := by simp [partT, ofS_beq]
theorem q_t {t : T} {n : Int} : partT (Str.ofString "t") t n = (opersT t && lenB t 5) := by simp [partT, ofS_beq]
theorem q_b {t : T} {n : Int} : partT (Str.ofString "b") t n = wordT t n := by simp [partT, ofS_beq]
theorem ops_in {t : T} {S : Sto} {R : Post} (h : plT t = true) : oIn false t (.tup [.str (Str.ofString "add"), .str (Str.ofString "sub"), .str (Str.ofString "mul"), .str (Str.ofString "div"), .str (Str.ofString "rem"), .str (Str.ofString "less"), .str (Str.ofString "same"), .str (Str.ofString "xor")]) S R ↔ R (.bl (opsL.any fun b => isStrB t b)) S :=
  oIn_strs (zs := opsL) (neg := false) h
theorem rest_of {xs : List T} {S : Sto} {R : Post} {ρ : Sl} {w : WE} (hw : ∀ R' : Post, R' (.tup xs) S → w ρ S R') (hl : xs.length ≤ sizeLine) (hi : 3 < (wipeT ρ [3]).length) (g : ∀ x ∈ xs, GT S x) (q : R (.bl (xs.all operT)) S) :
    wLc (wItems w) (.nm 3) (wNot (wTru (wCall sp_law_is_operand (wCons (wVar 3) wNil)))) (wC (.int 1)) [3] ρ S (fun x S1 => 0 ≤ sizeLine ∧ oEq x (T.lst []) S1 R) := by
  refine wLc_filter (t := .tup xs) (ts := xs) (fun t => !operT t) (fun _ => .int 1) hw rfl hl (fun x hx => ⟨_, rfl, fun R' q' => ?_, fun R' q' => q'⟩) ?_
  · exact ⟨x, List.getElem?_set_self hi, x, rfl, g x hx, operT x, rfl, q'⟩
  · refine ⟨Nat.zero_le _, ?_⟩
    show oEq _ _ _ _
    rw [oEq_l0, filter_empty]
    simpa using q
theorem ok_law_is_part : ∀ ts S R, sp_law_is_part ts S R → w_law_is_part { nx := fun _ S' => R .non S', rt := R } (startT n_law_is_part ts) S := by
  rintro ts S R ⟨k, t, n, rfl, g, ho, q⟩
  rw [show startT n_law_is_part [.str k, t, .int n] = [some (.str k), some t, some (.int n), none] from rfl]
  unfold w_law_is_part
  have hsl := sizeLine_eq
  have h2 : 0 + 1 + 1 ≤ sizeLine := by omega
  have h8 : 0 + 1 + 1 + 1 + 1 + 1 + 1 + 1 + 1 ≤ sizeLine := by omega
  have i1 := (gt_isa g).2.2.2
  have i2 := gt_ty g
  by_cases e : k = "v"
  · subst e
    rw [q_v] at q
    simp only [↓u_sRet, ↓u_sRetN, ↓u_sNext, ↓u_sBrk, ↓u_sCont, ↓u_sSeq, ↓u_sDrop, ↓u_sIf, ↓u_wNil, ↓u_wCons, ↓u_wTup, ↓u_wLst, ↓u_wTst, ↓u_wTru, ↓u_wAnd, ↓u_wOr, ↓u_wNot, ↓u_wAndV, ↓u_wOrV, ↓u_wNotV, ↓u_wIfE, ↓u_wC, ↓u_wOp, ↓u_wUn, ↓u_wCall, ↓u_wChain, ↓u_wIsi, ↓u_wPart, ↓u_wNoPart, ↓u_wSl, ↓u_slT, ↓u_slL, ↓u_wMeth, ↓u_wKGet, ↓u_wInK, ↓u_sAsg, ↓u_exbl, ↓u_exint, ↓u_exstr, ↓u_exref, ↓u_exsome, ↓u_trubl, ↓u_truint, ↓u_trunon, ↓u_trulst, ↓u_trutup, ↓oEq_ss, ↓oEq_ii, ↓oEq_bb, ↓oEq_ni, ↓oNe_ss, ↓oNe_ii, ↓oNe_bb, ↓oEq_l0, ↓oNe_l0, ↓oEq_t0, ↓oNe_t0, ↓oLt_ii, ↓oLe_ii, ↓oGt_ii, ↓oGe_ii, ↓oSub_ii, ↓oAdd_ii, ↓u_lenT, ↓u_lenL, ↓u_isnon, ↓u_ixtup0, ↓u_ixlst0, ↓u_ixtup1, ↓u_ixlst1, ↓u_ixtup2, ↓u_ixlst2, ↓u_ixtup3, ↓u_ixlst3, ↓u_ixtup4, ↓u_ixlst4, ↓u_ixtup5, ↓u_ixlst5, ↓u_v0, ↓u_s0, ↓u_v1, ↓u_s1, ↓u_v2, ↓u_s2, ↓u_v3, ↓u_s3, ↓u_v4, ↓u_s4, ↓u_v5, ↓u_s5, ↓u_v6, ↓u_s6, ↓u_v7, ↓u_s7, ↓u_v8, ↓u_s8, ↓u_v9, ↓u_s9, ↓u_v10, ↓u_s10, ↓u_v11, ↓u_s11, ↓u_v12, ↓u_s12, ↓u_v13, ↓u_s13, ↓u_v14, ↓u_s14, ↓u_v15, ↓u_s15, ↓u_v16, ↓u_s16, ↓u_v17, ↓u_s17, ↓u_v18, ↓u_s18, ↓u_v19, ↓u_s19, if_true, if_false, Bool.false_eq_true, Bool.not_true, Bool.not_false, Bool.true_and, Bool.false_and, Bool.and_true, Bool.and_false, Bool.or_true, Bool.or_false, Bool.true_or, Bool.false_or, true_and, and_true, Option.isSome_some, List.length_cons, List.length_nil, ofS_beq, String.reduceBEq, iff_whole, g]
    cases h : wordT t 4000 <;> simp_all
  by_cases e : k = "w"
  · subst e
    rw [q_w] at q
    simp only [↓u_sRet, ↓u_sRetN, ↓u_sNext, ↓u_sBrk, ↓u_sCont, ↓u_sSeq, ↓u_sDrop, ↓u_sIf, ↓u_wNil, ↓u_wCons, ↓u_wTup, ↓u_wLst, ↓u_wTst, ↓u_wTru, ↓u_wAnd, ↓u_wOr, ↓u_wNot, ↓u_wAndV, ↓u_wOrV, ↓u_wNotV, ↓u_wIfE, ↓u_wC, ↓u_wOp, ↓u_wUn, ↓u_wCall, ↓u_wChain, ↓u_wIsi, ↓u_wPart, ↓u_wNoPart, ↓u_wSl, ↓u_slT, ↓u_slL, ↓u_wMeth, ↓u_wKGet, ↓u_wInK, ↓u_sAsg, ↓u_exbl, ↓u_exint, ↓u_exstr, ↓u_exref, ↓u_exsome, ↓u_trubl, ↓u_truint, ↓u_trunon, ↓u_trulst, ↓u_trutup, ↓oEq_ss, ↓oEq_ii, ↓oEq_bb, ↓oEq_ni, ↓oNe_ss, ↓oNe_ii, ↓oNe_bb, ↓oEq_l0, ↓oNe_l0, ↓oEq_t0, ↓oNe_t0, ↓oLt_ii, ↓oLe_ii, ↓oGt_ii, ↓oGe_ii, ↓oSub_ii, ↓oAdd_ii, ↓u_lenT, ↓u_lenL, ↓u_isnon, ↓u_ixtup0, ↓u_ixlst0, ↓u_ixtup1, ↓u_ixlst1, ↓u_ixtup2, ↓u_ixlst2, ↓u_ixtup3, ↓u_ixlst3, ↓u_ixtup4, ↓u_ixlst4, ↓u_ixtup5, ↓u_ixlst5, ↓u_v0, ↓u_s0, ↓u_v1, ↓u_s1, ↓u_v2, ↓u_s2, ↓u_v3, ↓u_s3, ↓u_v4, ↓u_s4, ↓u_v5, ↓u_s5, ↓u_v6, ↓u_s6, ↓u_v7, ↓u_s7, ↓u_v8, ↓u_s8, ↓u_v9, ↓u_s9, ↓u_v10, ↓u_s10, ↓u_v11, ↓u_s11, ↓u_v12, ↓u_s12, ↓u_v13, ↓u_s13, ↓u_v14, ↓u_s14, ↓u_v15, ↓u_s15, ↓u_v16, ↓u_s16, ↓u_v17, ↓u_s17, ↓u_v18, ↓u_s18, ↓u_v19, ↓u_s19, if_true, if_false, Bool.false_eq_true, Bool.not_true, Bool.not_false, Bool.true_and, Bool.false_and, Bool.and_true, Bool.and_false, Bool.or_true, Bool.or_false, Bool.true_or, Bool.false_or, true_and, and_true, Option.isSome_some, List.length_cons, List.length_nil, ofS_beq, String.reduceBEq, iff_whole, g]
    cases h : wordT t 4000 <;> simp_all
  by_cases e : k = "a"
  · subst e
    rw [q_a] at q
    simp only [↓u_sRet, ↓u_sRetN, ↓u_sNext, ↓u_sBrk, ↓u_sCont, ↓u_sSeq, ↓u_sDrop, ↓u_sIf, ↓u_wNil, ↓u_wCons, ↓u_wTup, ↓u_wLst, ↓u_wTst, ↓u_wTru, ↓u_wAnd, ↓u_wOr, ↓u_wNot, ↓u_wAndV, ↓u_wOrV, ↓u_wNotV, ↓u_wIfE, ↓u_wC, ↓u_wOp, ↓u_wUn, ↓u_wCall, ↓u_wChain, ↓u_wIsi, ↓u_wPart, ↓u_wNoPart, ↓u_wSl, ↓u_slT, ↓u_slL, ↓u_wMeth, ↓u_wKGet, ↓u_wInK, ↓u_sAsg, ↓u_exbl, ↓u_exint, ↓u_exstr, ↓u_exref, ↓u_exsome, ↓u_trubl, ↓u_truint, ↓u_trunon, ↓u_trulst, ↓u_trutup, ↓oEq_ss, ↓oEq_ii, ↓oEq_bb, ↓oEq_ni, ↓oNe_ss, ↓oNe_ii, ↓oNe_bb, ↓oEq_l0, ↓oNe_l0, ↓oEq_t0, ↓oNe_t0, ↓oLt_ii, ↓oLe_ii, ↓oGt_ii, ↓oGe_ii, ↓oSub_ii, ↓oAdd_ii, ↓u_lenT, ↓u_lenL, ↓u_isnon, ↓u_ixtup0, ↓u_ixlst0, ↓u_ixtup1, ↓u_ixlst1, ↓u_ixtup2, ↓u_ixlst2, ↓u_ixtup3, ↓u_ixlst3, ↓u_ixtup4, ↓u_ixlst4, ↓u_ixtup5, ↓u_ixlst5, ↓u_v0, ↓u_s0, ↓u_v1, ↓u_s1, ↓u_v2, ↓u_s2, ↓u_v3, ↓u_s3, ↓u_v4, ↓u_s4, ↓u_v5, ↓u_s5, ↓u_v6, ↓u_s6, ↓u_v7, ↓u_s7, ↓u_v8, ↓u_s8, ↓u_v9, ↓u_s9, ↓u_v10, ↓u_s10, ↓u_v11, ↓u_s11, ↓u_v12, ↓u_s12, ↓u_v13, ↓u_s13, ↓u_v14, ↓u_s14, ↓u_v15, ↓u_s15, ↓u_v16, ↓u_s16, ↓u_v17, ↓u_s17, ↓u_v18, ↓u_s18, ↓u_v19, ↓u_s19, if_true, if_false, Bool.false_eq_true, Bool.not_true, Bool.not_false, Bool.true_and, Bool.false_and, Bool.and_true, Bool.and_false, Bool.or_true, Bool.or_false, Bool.true_or, Bool.false_or, true_and, and_true, Option.isSome_some, List.length_cons, List.length_nil, ofS_beq, String.reduceBEq, sp_law_is_operand, iff_b1, g]
    cases h : operT t <;> simp_all
  by_cases e : k = "r"
  · subst e
    rw [q_r] at q
    simp only [↓u_sRet, ↓u_sRetN, ↓u_sNext, ↓u_sBrk, ↓u_sCont, ↓u_sSeq, ↓u_sDrop, ↓u_sIf, ↓u_wNil, ↓u_wCons, ↓u_wTup, ↓u_wLst, ↓u_wTst, ↓u_wTru, ↓u_wAnd, ↓u_wOr, ↓u_wNot, ↓u_wAndV, ↓u_wOrV, ↓u_wNotV, ↓u_wIfE, ↓u_wC, ↓u_wOp, ↓u_wUn, ↓u_wCall, ↓u_wChain, ↓u_wIsi, ↓u_wPart, ↓u_wNoPart, ↓u_wSl, ↓u_slT, ↓u_slL, ↓u_wMeth, ↓u_wKGet, ↓u_wInK, ↓u_sAsg, ↓u_exbl, ↓u_exint, ↓u_exstr, ↓u_exref, ↓u_exsome, ↓u_trubl, ↓u_truint, ↓u_trunon, ↓u_trulst, ↓u_trutup, ↓oEq_ss, ↓oEq_ii, ↓oEq_bb, ↓oEq_ni, ↓oNe_ss, ↓oNe_ii, ↓oNe_bb, ↓oEq_l0, ↓oNe_l0, ↓oEq_t0, ↓oNe_t0, ↓oLt_ii, ↓oLe_ii, ↓oGt_ii, ↓oGe_ii, ↓oSub_ii, ↓oAdd_ii, ↓u_lenT, ↓u_lenL, ↓u_isnon, ↓u_ixtup0, ↓u_ixlst0, ↓u_ixtup1, ↓u_ixlst1, ↓u_ixtup2, ↓u_ixlst2, ↓u_ixtup3, ↓u_ixlst3, ↓u_ixtup4, ↓u_ixlst4, ↓u_ixtup5, ↓u_ixlst5, ↓u_v0, ↓u_s0, ↓u_v1, ↓u_s1, ↓u_v2, ↓u_s2, ↓u_v3, ↓u_s3, ↓u_v4, ↓u_s4, ↓u_v5, ↓u_s5, ↓u_v6, ↓u_s6, ↓u_v7, ↓u_s7, ↓u_v8, ↓u_s8, ↓u_v9, ↓u_s9, ↓u_v10, ↓u_s10, ↓u_v11, ↓u_s11, ↓u_v12, ↓u_s12, ↓u_v13, ↓u_s13, ↓u_v14, ↓u_s14, ↓u_v15, ↓u_s15, ↓u_v16, ↓u_s16, ↓u_v17, ↓u_s17, ↓u_v18, ↓u_s18, ↓u_v19, ↓u_s19, if_true, if_false, Bool.false_eq_true, Bool.not_true, Bool.not_false, Bool.true_and, Bool.false_and, Bool.and_true, Bool.and_false, Bool.or_true, Bool.or_false, Bool.true_or, Bool.false_or, true_and, and_true, Option.isSome_some, List.length_cons, List.length_nil, ofS_beq, String.reduceBEq, sp_law_is_operand, iff_b1, g]
    cases h : operT t <;> simp_all
  by_cases e : k = "n"
  · subst e
    rw [q_n] at q
    simp only [↓u_sRet, ↓u_sRetN, ↓u_sNext, ↓u_sBrk, ↓u_sCont, ↓u_sSeq, ↓u_sDrop, ↓u_sIf, ↓u_wNil, ↓u_wCons, ↓u_wTup, ↓u_wLst, ↓u_wTst, ↓u_wTru, ↓u_wAnd, ↓u_wOr, ↓u_wNot, ↓u_wAndV, ↓u_wOrV, ↓u_wNotV, ↓u_wIfE, ↓u_wC, ↓u_wOp, ↓u_wUn, ↓u_wCall, ↓u_wChain, ↓u_wIsi, ↓u_wPart, ↓u_wNoPart, ↓u_wSl, ↓u_slT, ↓u_slL, ↓u_wMeth, ↓u_wKGet, ↓u_wInK, ↓u_sAsg, ↓u_exbl, ↓u_exint, ↓u_exstr, ↓u_exref, ↓u_exsome, ↓u_trubl, ↓u_truint, ↓u_trunon, ↓u_trulst, ↓u_trutup, ↓oEq_ss, ↓oEq_ii, ↓oEq_bb, ↓oEq_ni, ↓oNe_ss, ↓oNe_ii, ↓oNe_bb, ↓oEq_l0, ↓oNe_l0, ↓oEq_t0, ↓oNe_t0, ↓oLt_ii, ↓oLe_ii, ↓oGt_ii, ↓oGe_ii, ↓oSub_ii, ↓oAdd_ii, ↓u_lenT, ↓u_lenL, ↓u_isnon, ↓u_ixtup0, ↓u_ixlst0, ↓u_ixtup1, ↓u_ixlst1, ↓u_ixtup2, ↓u_ixlst2, ↓u_ixtup3, ↓u_ixlst3, ↓u_ixtup4, ↓u_ixlst4, ↓u_ixtup5, ↓u_ixlst5, ↓u_v0, ↓u_s0, ↓u_v1, ↓u_s1, ↓u_v2, ↓u_s2, ↓u_v3, ↓u_s3, ↓u_v4, ↓u_s4, ↓u_v5, ↓u_s5, ↓u_v6, ↓u_s6, ↓u_v7, ↓u_s7, ↓u_v8, ↓u_s8, ↓u_v9, ↓u_s9, ↓u_v10, ↓u_s10, ↓u_v11, ↓u_s11, ↓u_v12, ↓u_s12, ↓u_v13, ↓u_s13, ↓u_v14, ↓u_s14, ↓u_v15, ↓u_s15, ↓u_v16, ↓u_s16, ↓u_v17, ↓u_s17, ↓u_v18, ↓u_s18, ↓u_v19, ↓u_s19, if_true, if_false, Bool.false_eq_true, Bool.not_true, Bool.not_false, Bool.true_and, Bool.false_and, Bool.and_true, Bool.and_false, Bool.or_true, Bool.or_false, Bool.true_or, Bool.false_or, true_and, and_true, Option.isSome_some, List.length_cons, List.length_nil, ofS_beq, String.reduceBEq, sp_law_is_full_name, iff_b1, g, h2, oIn_s2]
    exact q
  by_cases e : k = "f"
  · subst e
    rw [q_f] at q
    simp only [↓u_sRet, ↓u_sRetN, ↓u_sNext, ↓u_sBrk, ↓u_sCont, ↓u_sSeq, ↓u_sDrop, ↓u_sIf, ↓u_wNil, ↓u_wCons, ↓u_wTup, ↓u_wLst, ↓u_wTst, ↓u_wTru, ↓u_wAnd, ↓u_wOr, ↓u_wNot, ↓u_wAndV, ↓u_wOrV, ↓u_wNotV, ↓u_wIfE, ↓u_wC, ↓u_wOp, ↓u_wUn, ↓u_wCall, ↓u_wChain, ↓u_wIsi, ↓u_wPart, ↓u_wNoPart, ↓u_wSl, ↓u_slT, ↓u_slL, ↓u_wMeth, ↓u_wKGet, ↓u_wInK, ↓u_sAsg, ↓u_exbl, ↓u_exint, ↓u_exstr, ↓u_exref, ↓u_exsome, ↓u_trubl, ↓u_truint, ↓u_trunon, ↓u_trulst, ↓u_trutup, ↓oEq_ss, ↓oEq_ii, ↓oEq_bb, ↓oEq_ni, ↓oNe_ss, ↓oNe_ii, ↓oNe_bb, ↓oEq_l0, ↓oNe_l0, ↓oEq_t0, ↓oNe_t0, ↓oLt_ii, ↓oLe_ii, ↓oGt_ii, ↓oGe_ii, ↓oSub_ii, ↓oAdd_ii, ↓u_lenT, ↓u_lenL, ↓u_isnon, ↓u_ixtup0, ↓u_ixlst0, ↓u_ixtup1, ↓u_ixlst1, ↓u_ixtup2, ↓u_ixlst2, ↓u_ixtup3, ↓u_ixlst3, ↓u_ixtup4, ↓u_ixlst4, ↓u_ixtup5, ↓u_ixlst5, ↓u_v0, ↓u_s0, ↓u_v1, ↓u_s1, ↓u_v2, ↓u_s2, ↓u_v3, ↓u_s3, ↓u_v4, ↓u_s4, ↓u_v5, ↓u_s5, ↓u_v6, ↓u_s6, ↓u_v7, ↓u_s7, ↓u_v8, ↓u_s8, ↓u_v9, ↓u_s9, ↓u_v10, ↓u_s10, ↓u_v11, ↓u_s11, ↓u_v12, ↓u_s12, ↓u_v13, ↓u_s13, ↓u_v14, ↓u_s14, ↓u_v15, ↓u_s15, ↓u_v16, ↓u_s16, ↓u_v17, ↓u_s17, ↓u_v18, ↓u_s18, ↓u_v19, ↓u_s19, if_true, if_false, Bool.false_eq_true, Bool.not_true, Bool.not_false, Bool.true_and, Bool.false_and, Bool.and_true, Bool.and_false, Bool.or_true, Bool.or_false, Bool.true_or, Bool.false_or, true_and, and_true, Option.isSome_some, List.length_cons, List.length_nil, ofS_beq, String.reduceBEq, sp_law_is_full_name, iff_b1, g, h2, oIn_s2]
    exact q
  by_cases e : k = "o"
  · subst e
    rw [q_o] at q
    have hp := ho (by rw [l_o])
    simp only [↓u_sRet, ↓u_sRetN, ↓u_sNext, ↓u_sBrk, ↓u_sCont, ↓u_sSeq, ↓u_sDrop, ↓u_sIf, ↓u_wNil, ↓u_wCons, ↓u_wTup, ↓u_wLst, ↓u_wTst, ↓u_wTru, ↓u_wAnd, ↓u_wOr, ↓u_wNot, ↓u_wAndV, ↓u_wOrV, ↓u_wNotV, ↓u_wIfE, ↓u_wC, ↓u_wOp, ↓u_wUn, ↓u_wCall, ↓u_wChain, ↓u_wIsi, ↓u_wPart, ↓u_wNoPart, ↓u_wSl, ↓u_slT, ↓u_slL, ↓u_wMeth, ↓u_wKGet, ↓u_wInK, ↓u_sAsg, ↓u_exbl, ↓u_exint, ↓u_exstr, ↓u_exref, ↓u_exsome, ↓u_trubl, ↓u_truint, ↓u_trunon, ↓u_trulst, ↓u_trutup, ↓oEq_ss, ↓oEq_ii, ↓oEq_bb, ↓oEq_ni, ↓oNe_ss, ↓oNe_ii, ↓oNe_bb, ↓oEq_l0, ↓oNe_l0, ↓oEq_t0, ↓oNe_t0, ↓oLt_ii, ↓oLe_ii, ↓oGt_ii, ↓oGe_ii, ↓oSub_ii, ↓oAdd_ii, ↓u_lenT, ↓u_lenL, ↓u_isnon, ↓u_ixtup0, ↓u_ixlst0, ↓u_ixtup1, ↓u_ixlst1, ↓u_ixtup2, ↓u_ixlst2, ↓u_ixtup3, ↓u_ixlst3, ↓u_ixtup4, ↓u_ixlst4, ↓u_ixtup5, ↓u_ixlst5, ↓u_v0, ↓u_s0, ↓u_v1, ↓u_s1, ↓u_v2, ↓u_s2, ↓u_v3, ↓u_s3, ↓u_v4, ↓u_s4, ↓u_v5, ↓u_s5, ↓u_v6, ↓u_s6, ↓u_v7, ↓u_s7, ↓u_v8, ↓u_s8, ↓u_v9, ↓u_s9, ↓u_v10, ↓u_s10, ↓u_v11, ↓u_s11, ↓u_v12, ↓u_s12, ↓u_v13, ↓u_s13, ↓u_v14, ↓u_s14, ↓u_v15, ↓u_s15, ↓u_v16, ↓u_s16, ↓u_v17, ↓u_s17, ↓u_v18, ↓u_s18, ↓u_v19, ↓u_s19, if_true, if_false, Bool.false_eq_true, Bool.not_true, Bool.not_false, Bool.true_and, Bool.false_and, Bool.and_true, Bool.and_false, Bool.or_true, Bool.or_false, Bool.true_or, Bool.false_or, true_and, and_true, Option.isSome_some, List.length_cons, List.length_nil, ofS_beq, String.reduceBEq, h2, oIn_s2, h8, ops_in hp]
    exact q
  by_cases e : k = "c"
  · subst e
    rw [q_c] at q
    cases t with
    | tup ts =>
      simp only [valueT] at q
      match ts, g, i1, i2, q with
      | [], g, i1, i2, q => simp only [↓u_sRet, ↓u_sRetN, ↓u_sNext, ↓u_sBrk, ↓u_sCont, ↓u_sSeq, ↓u_sDrop, ↓u_sIf, ↓u_wNil, ↓u_wCons, ↓u_wTup, ↓u_wLst, ↓u_wTst, ↓u_wTru, ↓u_wAnd, ↓u_wOr, ↓u_wNot, ↓u_wAndV, ↓u_wOrV, ↓u_wNotV, ↓u_wIfE, ↓u_wC, ↓u_wOp, ↓u_wUn, ↓u_wCall, ↓u_wChain, ↓u_wIsi, ↓u_wPart, ↓u_wNoPart, ↓u_wSl, ↓u_slT, ↓u_slL, ↓u_wMeth, ↓u_wKGet, ↓u_wInK, ↓u_sAsg, ↓u_exbl, ↓u_exint, ↓u_exstr, ↓u_exref, ↓u_exsome, ↓u_trubl, ↓u_truint, ↓u_trunon, ↓u_trulst, ↓u_trutup, ↓oEq_ss, ↓oEq_ii, ↓oEq_bb, ↓oEq_ni, ↓oNe_ss, ↓oNe_ii, ↓oNe_bb, ↓oEq_l0, ↓oNe_l0, ↓oEq_t0, ↓oNe_t0, ↓oLt_ii, ↓oLe_ii, ↓oGt_ii, ↓oGe_ii, ↓oSub_ii, ↓oAdd_ii, ↓u_lenT, ↓u_lenL, ↓u_isnon, ↓u_ixtup0, ↓u_ixlst0, ↓u_ixtup1, ↓u_ixlst1, ↓u_ixtup2, ↓u_ixlst2, ↓u_ixtup3, ↓u_ixlst3, ↓u_ixtup4, ↓u_ixlst4, ↓u_ixtup5, ↓u_ixlst5, ↓u_v0, ↓u_s0, ↓u_v1, ↓u_s1, ↓u_v2, ↓u_s2, ↓u_v3, ↓u_s3, ↓u_v4, ↓u_s4, ↓u_v5, ↓u_s5, ↓u_v6, ↓u_s6, ↓u_v7, ↓u_s7, ↓u_v8, ↓u_s8, ↓u_v9, ↓u_s9, ↓u_v10, ↓u_s10, ↓u_v11, ↓u_s11, ↓u_v12, ↓u_s12, ↓u_v13, ↓u_s13, ↓u_v14, ↓u_s14, ↓u_v15, ↓u_s15, ↓u_v16, ↓u_s16, ↓u_v17, ↓u_s17, ↓u_v18, ↓u_s18, ↓u_v19, ↓u_s19, if_true, if_false, Bool.false_eq_true, Bool.not_true, Bool.not_false, Bool.true_and, Bool.false_and, Bool.and_true, Bool.and_false, Bool.or_true, Bool.or_false, Bool.true_or, Bool.false_or, true_and, and_true, Option.isSome_some, List.length_cons, List.length_nil, ofS_beq, String.reduceBEq, h2, oIn_s2, i1, i2]; exact q
      | [x], g, i1, i2, q => simp only [↓u_sRet, ↓u_sRetN, ↓u_sNext, ↓u_sBrk, ↓u_sCont, ↓u_sSeq, ↓u_sDrop, ↓u_sIf, ↓u_wNil, ↓u_wCons, ↓u_wTup, ↓u_wLst, ↓u_wTst, ↓u_wTru, ↓u_wAnd, ↓u_wOr, ↓u_wNot, ↓u_wAndV, ↓u_wOrV, ↓u_wNotV, ↓u_wIfE, ↓u_wC, ↓u_wOp, ↓u_wUn, ↓u_wCall, ↓u_wChain, ↓u_wIsi, ↓u_wPart, ↓u_wNoPart, ↓u_wSl, ↓u_slT, ↓u_slL, ↓u_wMeth, ↓u_wKGet, ↓u_wInK, ↓u_sAsg, ↓u_exbl, ↓u_exint, ↓u_exstr, ↓u_exref, ↓u_exsome, ↓u_trubl, ↓u_truint, ↓u_trunon, ↓u_trulst, ↓u_trutup, ↓oEq_ss, ↓oEq_ii, ↓oEq_bb, ↓oEq_ni, ↓oNe_ss, ↓oNe_ii, ↓oNe_bb, ↓oEq_l0, ↓oNe_l0, ↓oEq_t0, ↓oNe_t0, ↓oLt_ii, ↓oLe_ii, ↓oGt_ii, ↓oGe_ii, ↓oSub_ii, ↓oAdd_ii, ↓u_lenT, ↓u_lenL, ↓u_isnon, ↓u_ixtup0, ↓u_ixlst0, ↓u_ixtup1, ↓u_ixlst1, ↓u_ixtup2, ↓u_ixlst2, ↓u_ixtup3, ↓u_ixlst3, ↓u_ixtup4, ↓u_ixlst4, ↓u_ixtup5, ↓u_ixlst5, ↓u_v0, ↓u_s0, ↓u_v1, ↓u_s1, ↓u_v2, ↓u_s2, ↓u_v3, ↓u_s3, ↓u_v4, ↓u_s4, ↓u_v5, ↓u_s5, ↓u_v6, ↓u_s6, ↓u_v7, ↓u_s7, ↓u_v8, ↓u_s8, ↓u_v9, ↓u_s9, ↓u_v10, ↓u_s10, ↓u_v11, ↓u_s11, ↓u_v12, ↓u_s12, ↓u_v13, ↓u_s13, ↓u_v14, ↓u_s14, ↓u_v15, ↓u_s15, ↓u_v16, ↓u_s16, ↓u_v17, ↓u_s17, ↓u_v18, ↓u_s18, ↓u_v19, ↓u_s19, if_true, if_false, Bool.false_eq_true, Bool.not_true, Bool.not_false, Bool.true_and, Bool.false_and, Bool.and_true, Bool.and_false, Bool.or_true, Bool.or_false, Bool.true_or, Bool.false_or, true_and, and_true, Option.isSome_some, List.length_cons, List.length_nil, ofS_beq, String.reduceBEq, h2, oIn_s2, i1, i2]; exact q
      | x :: y :: z :: l, g, i1, i2, q =>
        simp only [↓u_sRet, ↓u_sRetN, ↓u_sNext, ↓u_sBrk, ↓u_sCont, ↓u_sSeq, ↓u_sDrop, ↓u_sIf, ↓u_wNil, ↓u_wCons, ↓u_wTup, ↓u_wLst, ↓u_wTst, ↓u_wTru, ↓u_wAnd, ↓u_wOr, ↓u_wNot, ↓u_wAndV, ↓u_wOrV, ↓u_wNotV, ↓u_wIfE, ↓u_wC, ↓u_wOp, ↓u_wUn, ↓u_wCall, ↓u_wChain, ↓u_wIsi, ↓u_wPart, ↓u_wNoPart, ↓u_wSl, ↓u_slT, ↓u_slL, ↓u_wMeth, ↓u_wKGet, ↓u_wInK, ↓u_sAsg, ↓u_exbl, ↓u_exint, ↓u_exstr, ↓u_exref, ↓u_exsome, ↓u_trubl, ↓u_truint, ↓u_trunon, ↓u_trulst, ↓u_trutup, ↓oEq_ss, ↓oEq_ii, ↓oEq_bb, ↓oEq_ni, ↓oNe_ss, ↓oNe_ii, ↓oNe_bb, ↓oEq_l0, ↓oNe_l0, ↓oEq_t0, ↓oNe_t0, ↓oLt_ii, ↓oLe_ii, ↓oGt_ii, ↓oGe_ii, ↓oSub_ii, ↓oAdd_ii, ↓u_lenT, ↓u_lenL, ↓u_isnon, ↓u_ixtup0, ↓u_ixlst0, ↓u_ixtup1, ↓u_ixlst1, ↓u_ixtup2, ↓u_ixlst2, ↓u_ixtup3, ↓u_ixlst3, ↓u_ixtup4, ↓u_ixlst4, ↓u_ixtup5, ↓u_ixlst5, ↓u_v0, ↓u_s0, ↓u_v1, ↓u_s1, ↓u_v2, ↓u_s2, ↓u_v3, ↓u_s3, ↓u_v4, ↓u_s4, ↓u_v5, ↓u_s5, ↓u_v6, ↓u_s6, ↓u_v7, ↓u_s7, ↓u_v8, ↓u_s8, ↓u_v9, ↓u_s9, ↓u_v10, ↓u_s10, ↓u_v11, ↓u_s11, ↓u_v12, ↓u_s12, ↓u_v13, ↓u_s13, ↓u_v14, ↓u_s14, ↓u_v15, ↓u_s15, ↓u_v16, ↓u_s16, ↓u_v17, ↓u_s17, ↓u_v18, ↓u_s18, ↓u_v19, ↓u_s19, if_true, if_false, Bool.false_eq_true, Bool.not_true, Bool.not_false, Bool.true_and, Bool.false_and, Bool.and_true, Bool.and_false, Bool.or_true, Bool.or_false, Bool.true_or, Bool.false_or, true_and, and_true, Option.isSome_some, List.length_cons, List.length_nil, ofS_beq, String.reduceBEq, h2, oIn_s2, i1, i2]
        rw [if_neg (by simp; omega)]
        rw [show (((l.length + 1 + 1 + 1 : Nat) : Int) == 2) = false from beq_eq_false_iff_ne.mpr (by omega)]
        exact q
      | [x, y], g, i1, i2, q =>
        obtain ⟨p1, p2, g1, g2⟩ := gt2 g
        have e := fun S R => oEq_xs (t := x) (b := "func") (S := S) (R := R) p1
        simp only [↓u_sRet, ↓u_sRetN, ↓u_sNext, ↓u_sBrk, ↓u_sCont, ↓u_sSeq, ↓u_sDrop, ↓u_sIf, ↓u_wNil, ↓u_wCons, ↓u_wTup, ↓u_wLst, ↓u_wTst, ↓u_wTru, ↓u_wAnd, ↓u_wOr, ↓u_wNot, ↓u_wAndV, ↓u_wOrV, ↓u_wNotV, ↓u_wIfE, ↓u_wC, ↓u_wOp, ↓u_wUn, ↓u_wCall, ↓u_wChain, ↓u_wIsi, ↓u_wPart, ↓u_wNoPart, ↓u_wSl, ↓u_slT, ↓u_slL, ↓u_wMeth, ↓u_wKGet, ↓u_wInK, ↓u_sAsg, ↓u_exbl, ↓u_exint, ↓u_exstr, ↓u_exref, ↓u_exsome, ↓u_trubl, ↓u_truint, ↓u_trunon, ↓u_trulst, ↓u_trutup, ↓oEq_ss, ↓oEq_ii, ↓oEq_bb, ↓oEq_ni, ↓oNe_ss, ↓oNe_ii, ↓oNe_bb, ↓oEq_l0, ↓oNe_l0, ↓oEq_t0, ↓oNe_t0, ↓oLt_ii, ↓oLe_ii, ↓oGt_ii, ↓oGe_ii, ↓oSub_ii, ↓oAdd_ii, ↓u_lenT, ↓u_lenL, ↓u_isnon, ↓u_ixtup0, ↓u_ixlst0, ↓u_ixtup1, ↓u_ixlst1, ↓u_ixtup2, ↓u_ixlst2, ↓u_ixtup3, ↓u_ixlst3, ↓u_ixtup4, ↓u_ixlst4, ↓u_ixtup5, ↓u_ixlst5, ↓u_v0, ↓u_s0, ↓u_v1, ↓u_s1, ↓u_v2, ↓u_s2, ↓u_v3, ↓u_s3, ↓u_v4, ↓u_s4, ↓u_v5, ↓u_s5, ↓u_v6, ↓u_s6, ↓u_v7, ↓u_s7, ↓u_v8, ↓u_s8, ↓u_v9, ↓u_s9, ↓u_v10, ↓u_s10, ↓u_v11, ↓u_s11, ↓u_v12, ↓u_s12, ↓u_v13, ↓u_s13, ↓u_v14, ↓u_s14, ↓u_v15, ↓u_s15, ↓u_v16, ↓u_s16, ↓u_v17, ↓u_s17, ↓u_v18, ↓u_s18, ↓u_v19, ↓u_s19, if_true, if_false, Bool.false_eq_true, Bool.not_true, Bool.not_false, Bool.true_and, Bool.false_and, Bool.and_true, Bool.and_false, Bool.or_true, Bool.or_false, Bool.true_or, Bool.false_or, true_and, and_true, Option.isSome_some, List.length_cons, List.length_nil, ofS_beq, String.reduceBEq, h2, oIn_s2, i1, i2, e, sp_law_is_full_name, iff_b1, g2]
        simp only [funcT] at q
        cases hx : isStrB x "func" <;> simp_all
    | _ =>
      simp only [↓u_sRet, ↓u_sRetN, ↓u_sNext, ↓u_sBrk, ↓u_sCont, ↓u_sSeq, ↓u_sDrop, ↓u_sIf, ↓u_wNil, ↓u_wCons, ↓u_wTup, ↓u_wLst, ↓u_wTst, ↓u_wTru, ↓u_wAnd, ↓u_wOr, ↓u_wNot, ↓u_wAndV, ↓u_wOrV, ↓u_wNotV, ↓u_wIfE, ↓u_wC, ↓u_wOp, ↓u_wUn, ↓u_wCall, ↓u_wChain, ↓u_wIsi, ↓u_wPart, ↓u_wNoPart, ↓u_wSl, ↓u_slT, ↓u_slL, ↓u_wMeth, ↓u_wKGet, ↓u_wInK, ↓u_sAsg, ↓u_exbl, ↓u_exint, ↓u_exstr, ↓u_exref, ↓u_exsome, ↓u_trubl, ↓u_truint, ↓u_trunon, ↓u_trulst, ↓u_trutup, ↓oEq_ss, ↓oEq_ii, ↓oEq_bb, ↓oEq_ni, ↓oNe_ss, ↓oNe_ii, ↓oNe_bb, ↓oEq_l0, ↓oNe_l0, ↓oEq_t0, ↓oNe_t0, ↓oLt_ii, ↓oLe_ii, ↓oGt_ii, ↓oGe_ii, ↓oSub_ii, ↓oAdd_ii, ↓u_lenT, ↓u_lenL, ↓u_isnon, ↓u_ixtup0, ↓u_ixlst0, ↓u_ixtup1, ↓u_ixlst1, ↓u_ixtup2, ↓u_ixlst2, ↓u_ixtup3, ↓u_ixlst3, ↓u_ixtup4, ↓u_ixlst4, ↓u_ixtup5, ↓u_ixlst5, ↓u_v0, ↓u_s0, ↓u_v1, ↓u_s1, ↓u_v2, ↓u_s2, ↓u_v3, ↓u_s3, ↓u_v4, ↓u_s4, ↓u_v5, ↓u_s5, ↓u_v6, ↓u_s6, ↓u_v7, ↓u_s7, ↓u_v8, ↓u_s8, ↓u_v9, ↓u_s9, ↓u_v10, ↓u_s10, ↓u_v11, ↓u_s11, ↓u_v12, ↓u_s12, ↓u_v13, ↓u_s13, ↓u_v14, ↓u_s14, ↓u_v15, ↓u_s15, ↓u_v16, ↓u_s16, ↓u_v17, ↓u_s17, ↓u_v18, ↓u_s18, ↓u_v19, ↓u_s19, if_true, if_false, Bool.false_eq_true, Bool.not_true, Bool.not_false, Bool.true_and, Bool.false_and, Bool.and_true, Bool.and_false, Bool.or_true, Bool.or_false, Bool.true_or, Bool.false_or, true_and, and_true, Option.isSome_some, List.length_cons, List.length_nil, ofS_beq, String.reduceBEq, h2, oIn_s2, i1, i2, iff_whole, g]
      exact q
  by_cases e : k = "s"
  · subst e
    rw [q_s] at q
    cases t with
    | tup ts =>
      simp only [↓u_sRet, ↓u_sRetN, ↓u_sNext, ↓u_sBrk, ↓u_sCont, ↓u_sSeq, ↓u_sDrop, ↓u_sIf, ↓u_wNil, ↓u_wCons, ↓u_wTup, ↓u_wLst, ↓u_wTst, ↓u_wTru, ↓u_wAnd, ↓u_wOr, ↓u_wNot, ↓u_wAndV, ↓u_wOrV, ↓u_wNotV, ↓u_wIfE, ↓u_wC, ↓u_wOp, ↓u_wUn, ↓u_wCall, ↓u_wChain, ↓u_wIsi, ↓u_wPart, ↓u_wNoPart, ↓u_wSl, ↓u_slT, ↓u_slL, ↓u_wMeth, ↓u_wKGet, ↓u_wInK, ↓u_sAsg, ↓u_exbl, ↓u_exint, ↓u_exstr, ↓u_exref, ↓u_exsome, ↓u_trubl, ↓u_truint, ↓u_trunon, ↓u_trulst, ↓u_trutup, ↓oEq_ss, ↓oEq_ii, ↓oEq_bb, ↓oEq_ni, ↓oNe_ss, ↓oNe_ii, ↓oNe_bb, ↓oEq_l0, ↓oNe_l0, ↓oEq_t0, ↓oNe_t0, ↓oLt_ii, ↓oLe_ii, ↓oGt_ii, ↓oGe_ii, ↓oSub_ii, ↓oAdd_ii, ↓u_lenT, ↓u_lenL, ↓u_isnon, ↓u_ixtup0, ↓u_ixlst0, ↓u_ixtup1, ↓u_ixlst1, ↓u_ixtup2, ↓u_ixlst2, ↓u_ixtup3, ↓u_ixlst3, ↓u_ixtup4, ↓u_ixlst4, ↓u_ixtup5, ↓u_ixlst5, ↓u_v0, ↓u_s0, ↓u_v1, ↓u_s1, ↓u_v2, ↓u_s2, ↓u_v3, ↓u_s3, ↓u_v4, ↓u_s4, ↓u_v5, ↓u_s5, ↓u_v6, ↓u_s6, ↓u_v7, ↓u_s7, ↓u_v8, ↓u_s8, ↓u_v9, ↓u_s9, ↓u_v10, ↓u_s10, ↓u_v11, ↓u_s11, ↓u_v12, ↓u_s12, ↓u_v13, ↓u_s13, ↓u_v14, ↓u_s14, ↓u_v15, ↓u_s15, ↓u_v16, ↓u_s16, ↓u_v17, ↓u_s17, ↓u_v18, ↓u_s18, ↓u_v19, ↓u_s19, if_true, if_false, Bool.false_eq_true, Bool.not_true, Bool.not_false, Bool.true_and, Bool.false_and, Bool.and_true, Bool.and_false, Bool.or_true, Bool.or_false, Bool.true_or, Bool.false_or, true_and, and_true, Option.isSome_some, List.length_cons, List.length_nil, ofS_beq, String.reduceBEq, h2, oIn_s2, i1, i2]
      refine rest_of (xs := ts) (fun R' q' => by simp only [↓u_sRet, ↓u_sRetN, ↓u_sNext, ↓u_sBrk, ↓u_sCont, ↓u_sSeq, ↓u_sDrop, ↓u_sIf, ↓u_wNil, ↓u_wCons, ↓u_wTup, ↓u_wLst, ↓u_wTst, ↓u_wTru, ↓u_wAnd, ↓u_wOr, ↓u_wNot, ↓u_wAndV, ↓u_wOrV, ↓u_wNotV, ↓u_wIfE, ↓u_wC, ↓u_wOp, ↓u_wUn, ↓u_wCall, ↓u_wChain, ↓u_wIsi, ↓u_wPart, ↓u_wNoPart, ↓u_wSl, ↓u_slT, ↓u_slL, ↓u_wMeth, ↓u_wKGet, ↓u_wInK, ↓u_sAsg, ↓u_exbl, ↓u_exint, ↓u_exstr, ↓u_exref, ↓u_exsome, ↓u_trubl, ↓u_truint, ↓u_trunon, ↓u_trulst, ↓u_trutup, ↓oEq_ss, ↓oEq_ii, ↓oEq_bb, ↓oEq_ni, ↓oNe_ss, ↓oNe_ii, ↓oNe_bb, ↓oEq_l0, ↓oNe_l0, ↓oEq_t0, ↓oNe_t0, ↓oLt_ii, ↓oLe_ii, ↓oGt_ii, ↓oGe_ii, ↓oSub_ii, ↓oAdd_ii, ↓u_lenT, ↓u_lenL, ↓u_isnon, ↓u_ixtup0, ↓u_ixlst0, ↓u_ixtup1, ↓u_ixlst1, ↓u_ixtup2, ↓u_ixlst2, ↓u_ixtup3, ↓u_ixlst3, ↓u_ixtup4, ↓u_ixlst4, ↓u_ixtup5, ↓u_ixlst5, ↓u_v0, ↓u_s0, ↓u_v1, ↓u_s1, ↓u_v2, ↓u_s2, ↓u_v3, ↓u_s3, ↓u_v4, ↓u_s4, ↓u_v5, ↓u_s5, ↓u_v6, ↓u_s6, ↓u_v7, ↓u_s7, ↓u_v8, ↓u_s8, ↓u_v9, ↓u_s9, ↓u_v10, ↓u_s10, ↓u_v11, ↓u_s11, ↓u_v12, ↓u_s12, ↓u_v13, ↓u_s13, ↓u_v14, ↓u_s14, ↓u_v15, ↓u_s15, ↓u_v16, ↓u_s16, ↓u_v17, ↓u_s17, ↓u_v18, ↓u_s18, ↓u_v19, ↓u_s19, if_true, if_false, Bool.false_eq_true, Bool.not_true, Bool.not_false, Bool.true_and, Bool.false_and, Bool.and_true, Bool.and_false, Bool.or_true, Bool.or_false, Bool.true_or, Bool.false_or, true_and, and_true, Option.isSome_some, List.length_cons, List.length_nil, ofS_beq, String.reduceBEq]; exact q') (by have := gt_len g; omega) (by simp [wipeT]) (fun x hx => gt_mem g hx) ?_
      simp only [↓u_sRet, ↓u_sRetN, ↓u_sNext, ↓u_sBrk, ↓u_sCont, ↓u_sSeq, ↓u_sDrop, ↓u_sIf, ↓u_wNil, ↓u_wCons, ↓u_wTup, ↓u_wLst, ↓u_wTst, ↓u_wTru, ↓u_wAnd, ↓u_wOr, ↓u_wNot, ↓u_wAndV, ↓u_wOrV, ↓u_wNotV, ↓u_wIfE, ↓u_wC, ↓u_wOp, ↓u_wUn, ↓u_wCall, ↓u_wChain, ↓u_wIsi, ↓u_wPart, ↓u_wNoPart, ↓u_wSl, ↓u_slT, ↓u_slL, ↓u_wMeth, ↓u_wKGet, ↓u_wInK, ↓u_sAsg, ↓u_exbl, ↓u_exint, ↓u_exstr, ↓u_exref, ↓u_exsome, ↓u_trubl, ↓u_truint, ↓u_trunon, ↓u_trulst, ↓u_trutup, ↓oEq_ss, ↓oEq_ii, ↓oEq_bb, ↓oEq_ni, ↓oNe_ss, ↓oNe_ii, ↓oNe_bb, ↓oEq_l0, ↓oNe_l0, ↓oEq_t0, ↓oNe_t0, ↓oLt_ii, ↓oLe_ii, ↓oGt_ii, ↓oGe_ii, ↓oSub_ii, ↓oAdd_ii, ↓u_lenT, ↓u_lenL, ↓u_isnon, ↓u_ixtup0, ↓u_ixlst0, ↓u_ixtup1, ↓u_ixlst1, ↓u_ixtup2, ↓u_ixlst2, ↓u_ixtup3, ↓u_ixlst3, ↓u_ixtup4, ↓u_ixlst4, ↓u_ixtup5, ↓u_ixlst5, ↓u_v0, ↓u_s0, ↓u_v1, ↓u_s1, ↓u_v2, ↓u_s2, ↓u_v3, ↓u_s3, ↓u_v4, ↓u_s4, ↓u_v5, ↓u_s5, ↓u_v6, ↓u_s6, ↓u_v7, ↓u_s7, ↓u_v8, ↓u_s8, ↓u_v9, ↓u_s9, ↓u_v10, ↓u_s10, ↓u_v11, ↓u_s11, ↓u_v12, ↓u_s12, ↓u_v13, ↓u_s13, ↓u_v14, ↓u_s14, ↓u_v15, ↓u_s15, ↓u_v16, ↓u_s16, ↓u_v17, ↓u_s17, ↓u_v18, ↓u_s18, ↓u_v19, ↓u_s19, if_true, if_false, Bool.false_eq_true, Bool.not_true, Bool.not_false, Bool.true_and, Bool.false_and, Bool.and_true, Bool.and_false, Bool.or_true, Bool.or_false, Bool.true_or, Bool.false_or, true_and, and_true, Option.isSome_some, List.length_cons, List.length_nil, ofS_beq, String.reduceBEq]
      simp only [opersT] at q
      cases h : ts.all operT <;> simp_all
    | _ => simp only [↓u_sRet, ↓u_sRetN, ↓u_sNext, ↓u_sBrk, ↓u_sCont, ↓u_sSeq, ↓u_sDrop, ↓u_sIf, ↓u_wNil, ↓u_wCons, ↓u_wTup, ↓u_wLst, ↓u_wTst, ↓u_wTru, ↓u_wAnd, ↓u_wOr, ↓u_wNot, ↓u_wAndV, ↓u_wOrV, ↓u_wNotV, ↓u_wIfE, ↓u_wC, ↓u_wOp, ↓u_wUn, ↓u_wCall, ↓u_wChain, ↓u_wIsi, ↓u_wPart, ↓u_wNoPart, ↓u_wSl, ↓u_slT, ↓u_slL, ↓u_wMeth, ↓u_wKGet, ↓u_wInK, ↓u_sAsg, ↓u_exbl, ↓u_exint, ↓u_exstr, ↓u_exref, ↓u_exsome, ↓u_trubl, ↓u_truint, ↓u_trunon, ↓u_trulst, ↓u_trutup, ↓oEq_ss, ↓oEq_ii, ↓oEq_bb, ↓oEq_ni, ↓oNe_ss, ↓oNe_ii, ↓oNe_bb, ↓oEq_l0, ↓oNe_l0, ↓oEq_t0, ↓oNe_t0, ↓oLt_ii, ↓oLe_ii, ↓oGt_ii, ↓oGe_ii, ↓oSub_ii, ↓oAdd_ii, ↓u_lenT, ↓u_lenL, ↓u_isnon, ↓u_ixtup0, ↓u_ixlst0, ↓u_ixtup1, ↓u_ixlst1, ↓u_ixtup2, ↓u_ixlst2, ↓u_ixtup3, ↓u_ixlst3, ↓u_ixtup4, ↓u_ixlst4, ↓u_ixtup5, ↓u_ixlst5, ↓u_v0, ↓u_s0, ↓u_v1, ↓u_s1, ↓u_v2, ↓u_s2, ↓u_v3, ↓u_s3, ↓u_v4, ↓u_s4, ↓u_v5, ↓u_s5, ↓u_v6, ↓u_s6, ↓u_v7, ↓u_s7, ↓u_v8, ↓u_s8, ↓u_v9, ↓u_s9, ↓u_v10, ↓u_s10, ↓u_v11, ↓u_s11, ↓u_v12, ↓u_s12, ↓u_v13, ↓u_s13, ↓u_v14, ↓u_s14, ↓u_v15, ↓u_s15, ↓u_v16, ↓u_s16, ↓u_v17, ↓u_s17, ↓u_v18, ↓u_s18, ↓u_v19, ↓u_s19, if_true, if_false, Bool.false_eq_true, Bool.not_true, Bool.not_false, Bool.true_and, Bool.false_and, Bool.and_true, Bool.and_false, Bool.or_true, Bool.or_false, Bool.true_or, Bool.false_or, true_and, and_true, Option.isSome_some, List.length_cons, List.length_nil, ofS_beq, String.reduceBEq, h2, oIn_s2, i1, i2]; exact q
  by_cases e : k = "t"
  · subst e
    rw [q_t] at q
    cases t with
    | tup ts =>
      simp only [↓u_sRet, ↓u_sRetN, ↓u_sNext, ↓u_sBrk, ↓u_sCont, ↓u_sSeq, ↓u_sDrop, ↓u_sIf, ↓u_wNil, ↓u_wCons, ↓u_wTup, ↓u_wLst, ↓u_wTst, ↓u_wTru, ↓u_wAnd, ↓u_wOr, ↓u_wNot, ↓u_wAndV, ↓u_wOrV, ↓u_wNotV, ↓u_wIfE, ↓u_wC, ↓u_wOp, ↓u_wUn, ↓u_wCall, ↓u_wChain, ↓u_wIsi, ↓u_wPart, ↓u_wNoPart, ↓u_wSl, ↓u_slT, ↓u_slL, ↓u_wMeth, ↓u_wKGet, ↓u_wInK, ↓u_sAsg, ↓u_exbl, ↓u_exint, ↓u_exstr, ↓u_exref, ↓u_exsome, ↓u_trubl, ↓u_truint, ↓u_trunon, ↓u_trulst, ↓u_trutup, ↓oEq_ss, ↓oEq_ii, ↓oEq_bb, ↓oEq_ni, ↓oNe_ss, ↓oNe_ii, ↓oNe_bb, ↓oEq_l0, ↓oNe_l0, ↓oEq_t0, ↓oNe_t0, ↓oLt_ii, ↓oLe_ii, ↓oGt_ii, ↓oGe_ii, ↓oSub_ii, ↓oAdd_ii, ↓u_lenT, ↓u_lenL, ↓u_isnon, ↓u_ixtup0, ↓u_ixlst0, ↓u_ixtup1, ↓u_ixlst1, ↓u_ixtup2, ↓u_ixlst2, ↓u_ixtup3, ↓u_ixlst3, ↓u_ixtup4, ↓u_ixlst4, ↓u_ixtup5, ↓u_ixlst5, ↓u_v0, ↓u_s0, ↓u_v1, ↓u_s1, ↓u_v2, ↓u_s2, ↓u_v3, ↓u_s3, ↓u_v4, ↓u_s4, ↓u_v5, ↓u_s5, ↓u_v6, ↓u_s6, ↓u_v7, ↓u_s7, ↓u_v8, ↓u_s8, ↓u_v9, ↓u_s9, ↓u_v10, ↓u_s10, ↓u_v11, ↓u_s11, ↓u_v12, ↓u_s12, ↓u_v13, ↓u_s13, ↓u_v14, ↓u_s14, ↓u_v15, ↓u_s15, ↓u_v16, ↓u_s16, ↓u_v17, ↓u_s17, ↓u_v18, ↓u_s18, ↓u_v19, ↓u_s19, if_true, if_false, Bool.false_eq_true, Bool.not_true, Bool.not_false, Bool.true_and, Bool.false_and, Bool.and_true, Bool.and_false, Bool.or_true, Bool.or_false, Bool.true_or, Bool.false_or, true_and, and_true, Option.isSome_some, List.length_cons, List.length_nil, ofS_beq, String.reduceBEq, h2, oIn_s2, i1, i2]
      refine rest_of (xs := ts) (fun R' q' => by simp only [↓u_sRet, ↓u_sRetN, ↓u_sNext, ↓u_sBrk, ↓u_sCont, ↓u_sSeq, ↓u_sDrop, ↓u_sIf, ↓u_wNil, ↓u_wCons, ↓u_wTup, ↓u_wLst, ↓u_wTst, ↓u_wTru, ↓u_wAnd, ↓u_wOr, ↓u_wNot, ↓u_wAndV, ↓u_wOrV, ↓u_wNotV, ↓u_wIfE, ↓u_wC, ↓u_wOp, ↓u_wUn, ↓u_wCall, ↓u_wChain, ↓u_wIsi, ↓u_wPart, ↓u_wNoPart, ↓u_wSl, ↓u_slT, ↓u_slL, ↓u_wMeth, ↓u_wKGet, ↓u_wInK, ↓u_sAsg, ↓u_exbl, ↓u_exint, ↓u_exstr, ↓u_exref, ↓u_exsome, ↓u_trubl, ↓u_truint, ↓u_trunon, ↓u_trulst, ↓u_trutup, ↓oEq_ss, ↓oEq_ii, ↓oEq_bb, ↓oEq_ni, ↓oNe_ss, ↓oNe_ii, ↓oNe_bb, ↓oEq_l0, ↓oNe_l0, ↓oEq_t0, ↓oNe_t0, ↓oLt_ii, ↓oLe_ii, ↓oGt_ii, ↓oGe_ii, ↓oSub_ii, ↓oAdd_ii, ↓u_lenT, ↓u_lenL, ↓u_isnon, ↓u_ixtup0, ↓u_ixlst0, ↓u_ixtup1, ↓u_ixlst1, ↓u_ixtup2, ↓u_ixlst2, ↓u_ixtup3, ↓u_ixlst3, ↓u_ixtup4, ↓u_ixlst4, ↓u_ixtup5, ↓u_ixlst5, ↓u_v0, ↓u_s0, ↓u_v1, ↓u_s1, ↓u_v2, ↓u_s2, ↓u_v3, ↓u_s3, ↓u_v4, ↓u_s4, ↓u_v5, ↓u_s5, ↓u_v6, ↓u_s6, ↓u_v7, ↓u_s7, ↓u_v8, ↓u_s8, ↓u_v9, ↓u_s9, ↓u_v10, ↓u_s10, ↓u_v11, ↓u_s11, ↓u_v12, ↓u_s12, ↓u_v13, ↓u_s13, ↓u_v14, ↓u_s14, ↓u_v15, ↓u_s15, ↓u_v16, ↓u_s16, ↓u_v17, ↓u_s17, ↓u_v18, ↓u_s18, ↓u_v19, ↓u_s19, if_true, if_false, Bool.false_eq_true, Bool.not_true, Bool.not_false, Bool.true_and, Bool.false_and, Bool.and_true, Bool.and_false, Bool.or_true, Bool.or_false, Bool.true_or, Bool.false_or, true_and, and_true, Option.isSome_some, List.length_cons, List.length_nil, ofS_beq, String.reduceBEq]; exact q') (by have := gt_len g; omega) (by simp [wipeT]) (fun x hx => gt_mem g hx) ?_
      simp only [↓u_sRet, ↓u_sRetN, ↓u_sNext, ↓u_sBrk, ↓u_sCont, ↓u_sSeq, ↓u_sDrop, ↓u_sIf, ↓u_wNil, ↓u_wCons, ↓u_wTup, ↓u_wLst, ↓u_wTst, ↓u_wTru, ↓u_wAnd, ↓u_wOr, ↓u_wNot, ↓u_wAndV, ↓u_wOrV, ↓u_wNotV, ↓u_wIfE, ↓u_wC, ↓u_wOp, ↓u_wUn, ↓u_wCall, ↓u_wChain, ↓u_wIsi, ↓u_wPart, ↓u_wNoPart, ↓u_wSl, ↓u_slT, ↓u_slL, ↓u_wMeth, ↓u_wKGet, ↓u_wInK, ↓u_sAsg, ↓u_exbl, ↓u_exint, ↓u_exstr, ↓u_exref, ↓u_exsome, ↓u_trubl, ↓u_truint, ↓u_trunon, ↓u_trulst, ↓u_trutup, ↓oEq_ss, ↓oEq_ii, ↓oEq_bb, ↓oEq_ni, ↓oNe_ss, ↓oNe_ii, ↓oNe_bb, ↓oEq_l0, ↓oNe_l0, ↓oEq_t0, ↓oNe_t0, ↓oLt_ii, ↓oLe_ii, ↓oGt_ii, ↓oGe_ii, ↓oSub_ii, ↓oAdd_ii, ↓u_lenT, ↓u_lenL, ↓u_isnon, ↓u_ixtup0, ↓u_ixlst0, ↓u_ixtup1, ↓u_ixlst1, ↓u_ixtup2, ↓u_ixlst2, ↓u_ixtup3, ↓u_ixlst3, ↓u_ixtup4, ↓u_ixlst4, ↓u_ixtup5, ↓u_ixlst5, ↓u_v0, ↓u_s0, ↓u_v1, ↓u_s1, ↓u_v2, ↓u_s2, ↓u_v3, ↓u_s3, ↓u_v4, ↓u_s4, ↓u_v5, ↓u_s5, ↓u_v6, ↓u_s6, ↓u_v7, ↓u_s7, ↓u_v8, ↓u_s8, ↓u_v9, ↓u_s9, ↓u_v10, ↓u_s10, ↓u_v11, ↓u_s11, ↓u_v12, ↓u_s12, ↓u_v13, ↓u_s13, ↓u_v14, ↓u_s14, ↓u_v15, ↓u_s15, ↓u_v16, ↓u_s16, ↓u_v17, ↓u_s17, ↓u_v18, ↓u_s18, ↓u_v19, ↓u_s19, if_true, if_false, Bool.false_eq_true, Bool.not_true, Bool.not_false, Bool.true_and, Bool.false_and, Bool.and_true, Bool.and_false, Bool.or_true, Bool.or_false, Bool.true_or, Bool.false_or, true_and, and_true, Option.isSome_some, List.length_cons, List.length_nil, ofS_beq, String.reduceBEq]
      have e4 : decide (((ts.length : Nat) : Int) < 5) = decide (ts.length < 5) := decide_eq_decide.mpr ⟨fun _ => by omega, fun _ => by omega⟩
      rw [e4]
      simp only [opersT, lenB] at q
      cases h : ts.all operT <;> simp_all
    | _ => simp only [↓u_sRet, ↓u_sRetN, ↓u_sNext, ↓u_sBrk, ↓u_sCont, ↓u_sSeq, ↓u_sDrop, ↓u_sIf, ↓u_wNil, ↓u_wCons, ↓u_wTup, ↓u_wLst, ↓u_wTst, ↓u_wTru, ↓u_wAnd, ↓u_wOr, ↓u_wNot, ↓u_wAndV, ↓u_wOrV, ↓u_wNotV, ↓u_wIfE, ↓u_wC, ↓u_wOp, ↓u_wUn, ↓u_wCall, ↓u_wChain, ↓u_wIsi, ↓u_wPart, ↓u_wNoPart, ↓u_wSl, ↓u_slT, ↓u_slL, ↓u_wMeth, ↓u_wKGet, ↓u_wInK, ↓u_sAsg, ↓u_exbl, ↓u_exint, ↓u_exstr, ↓u_exref, ↓u_exsome, ↓u_trubl, ↓u_truint, ↓u_trunon, ↓u_trulst, ↓u_trutup, ↓oEq_ss, ↓oEq_ii, ↓oEq_bb, ↓oEq_ni, ↓oNe_ss, ↓oNe_ii, ↓oNe_bb, ↓oEq_l0, ↓oNe_l0, ↓oEq_t0, ↓oNe_t0, ↓oLt_ii, ↓oLe_ii, ↓oGt_ii, ↓oGe_ii, ↓oSub_ii, ↓oAdd_ii, ↓u_lenT, ↓u_lenL, ↓u_isnon, ↓u_ixtup0, ↓u_ixlst0, ↓u_ixtup1, ↓u_ixlst1, ↓u_ixtup2, ↓u_ixlst2, ↓u_ixtup3, ↓u_ixlst3, ↓u_ixtup4, ↓u_ixlst4, ↓u_ixtup5, ↓u_ixlst5, ↓u_v0, ↓u_s0, ↓u_v1, ↓u_s1, ↓u_v2, ↓u_s2, ↓u_v3, ↓u_s3, ↓u_v4, ↓u_s4, ↓u_v5, ↓u_s5, ↓u_v6, ↓u_s6, ↓u_v7, ↓u_s7, ↓u_v8, ↓u_s8, ↓u_v9, ↓u_s9, ↓u_v10, ↓u_s10, ↓u_v11, ↓u_s11, ↓u_v12, ↓u_s12, ↓u_v13, ↓u_s13, ↓u_v14, ↓u_s14, ↓u_v15, ↓u_s15, ↓u_v16, ↓u_s16, ↓u_v17, ↓u_s17, ↓u_v18, ↓u_s18, ↓u_v19, ↓u_s19, if_true, if_false, Bool.false_eq_true, Bool.not_true, Bool.not_false, Bool.true_and, Bool.false_and, Bool.and_true, Bool.and_false, Bool.or_true, Bool.or_false, Bool.true_or, Bool.false_or, true_and, and_true, Option.isSome_some, List.length_cons, List.length_nil, ofS_beq, String.reduceBEq, h2, oIn_s2, i1, i2]; exact q
  by_cases e : k = "b"
  · subst e
    rw [q_b] at q
    simp only [↓u_sRet, ↓u_sRetN, ↓u_sNext, ↓u_sBrk, ↓u_sCont, ↓u_sSeq, ↓u_sDrop, ↓u_sIf, ↓u_wNil, ↓u_wCons, ↓u_wTup, ↓u_wLst, ↓u_wTst, ↓u_wTru, ↓u_wAnd, ↓u_wOr, ↓u_wNot, ↓u_wAndV, ↓u_wOrV, ↓u_wNotV, ↓u_wIfE, ↓u_wC, ↓u_wOp, ↓u_wUn, ↓u_wCall, ↓u_wChain, ↓u_wIsi, ↓u_wPart, ↓u_wNoPart, ↓u_wSl, ↓u_slT, ↓u_slL, ↓u_wMeth, ↓u_wKGet, ↓u_wInK, ↓u_sAsg, ↓u_exbl, ↓u_exint, ↓u_exstr, ↓u_exref, ↓u_exsome, ↓u_trubl, ↓u_truint, ↓u_trunon, ↓u_trulst, ↓u_trutup, ↓oEq_ss, ↓oEq_ii, ↓oEq_bb, ↓oEq_ni, ↓oNe_ss, ↓oNe_ii, ↓oNe_bb, ↓oEq_l0, ↓oNe_l0, ↓oEq_t0, ↓oNe_t0, ↓oLt_ii, ↓oLe_ii, ↓oGt_ii, ↓oGe_ii, ↓oSub_ii, ↓oAdd_ii, ↓u_lenT, ↓u_lenL, ↓u_isnon, ↓u_ixtup0, ↓u_ixlst0, ↓u_ixtup1, ↓u_ixlst1, ↓u_ixtup2, ↓u_ixlst2, ↓u_ixtup3, ↓u_ixlst3, ↓u_ixtup4, ↓u_ixlst4, ↓u_ixtup5, ↓u_ixlst5, ↓u_v0, ↓u_s0, ↓u_v1, ↓u_s1, ↓u_v2, ↓u_s2, ↓u_v3, ↓u_s3, ↓u_v4, ↓u_s4, ↓u_v5, ↓u_s5, ↓u_v6, ↓u_s6, ↓u_v7, ↓u_s7, ↓u_v8, ↓u_s8, ↓u_v9, ↓u_s9, ↓u_v10, ↓u_s10, ↓u_v11, ↓u_s11, ↓u_v12, ↓u_s12, ↓u_v13, ↓u_s13, ↓u_v14, ↓u_s14, ↓u_v15, ↓u_s15, ↓u_v16, ↓u_s16, ↓u_v17, ↓u_s17, ↓u_v18, ↓u_s18, ↓u_v19, ↓u_s19, if_true, if_false, Bool.false_eq_true, Bool.not_true, Bool.not_false, Bool.true_and, Bool.false_and, Bool.and_true, Bool.and_false, Bool.or_true, Bool.or_false, Bool.true_or, Bool.false_or, true_and, and_true, Option.isSome_some, List.length_cons, List.length_nil, ofS_beq, String.reduceBEq, h2, oIn_s2, iff_whole, g]
    exact q
  · have ne : ∀ {a : String}, ¬ k = Str.ofString a → (k == Str.ofString a) = false := fun h => beq_eq_false_iff_ne.mpr h
    have q : R (.bl (wordT t 65536)) S := by simpa [partT, *] using q
    have e_v := ne (show ¬ k = Str.ofString "v" by assumption)
    have e_w := ne (show ¬ k = Str.ofString "w" by assumption)
    have e_a := ne (show ¬ k = Str.ofString "a" by assumption)
    have e_r := ne (show ¬ k = Str.ofString "r" by assumption)
    have e_n := ne (show ¬ k = Str.ofString "n" by assumption)
    have e_f := ne (show ¬ k = Str.ofString "f" by assumption)
    have e_o := ne (show ¬ k = Str.ofString "o" by assumption)
    have e_c := ne (show ¬ k = Str.ofString "c" by assumption)
    have e_s := ne (show ¬ k = Str.ofString "s" by assumption)
    have e_t := ne (show ¬ k = Str.ofString "t" by assumption)
    have e_b := ne (show ¬ k = Str.ofString "b" by assumption)
    simp only [↓u_sRet, ↓u_sRetN, ↓u_sNext, ↓u_sBrk, ↓u_sCont, ↓u_sSeq, ↓u_sDrop, ↓u_sIf, ↓u_wNil, ↓u_wCons, ↓u_wTup, ↓u_wLst, ↓u_wTst, ↓u_wTru, ↓u_wAnd, ↓u_wOr, ↓u_wNot, ↓u_wAndV, ↓u_wOrV, ↓u_wNotV, ↓u_wIfE, ↓u_wC, ↓u_wOp, ↓u_wUn, ↓u_wCall, ↓u_wChain, ↓u_wIsi, ↓u_wPart, ↓u_wNoPart, ↓u_wSl, ↓u_slT, ↓u_slL, ↓u_wMeth, ↓u_wKGet, ↓u_wInK, ↓u_sAsg, ↓u_exbl, ↓u_exint, ↓u_exstr, ↓u_exref, ↓u_exsome, ↓u_trubl, ↓u_truint, ↓u_trunon, ↓u_trulst, ↓u_trutup, ↓oEq_ss, ↓oEq_ii, ↓oEq_bb, ↓oEq_ni, ↓oNe_ss, ↓oNe_ii, ↓oNe_bb, ↓oEq_l0, ↓oNe_l0, ↓oEq_t0, ↓oNe_t0, ↓oLt_ii, ↓oLe_ii, ↓oGt_ii, ↓oGe_ii, ↓oSub_ii, ↓oAdd_ii, ↓u_lenT, ↓u_lenL, ↓u_isnon, ↓u_ixtup0, ↓u_ixlst0, ↓u_ixtup1, ↓u_ixlst1, ↓u_ixtup2, ↓u_ixlst2, ↓u_ixtup3, ↓u_ixlst3, ↓u_ixtup4, ↓u_ixlst4, ↓u_ixtup5, ↓u_ixlst5, ↓u_v0, ↓u_s0, ↓u_v1, ↓u_s1, ↓u_v2, ↓u_s2, ↓u_v3, ↓u_s3, ↓u_v4, ↓u_s4, ↓u_v5, ↓u_s5, ↓u_v6, ↓u_s6, ↓u_v7, ↓u_s7, ↓u_v8, ↓u_s8, ↓u_v9, ↓u_s9, ↓u_v10, ↓u_s10, ↓u_v11, ↓u_s11, ↓u_v12, ↓u_s12, ↓u_v13, ↓u_s13, ↓u_v14, ↓u_s14, ↓u_v15, ↓u_s15, ↓u_v16, ↓u_s16, ↓u_v17, ↓u_s17, ↓u_v18, ↓u_s18, ↓u_v19, ↓u_s19, if_true, if_false, Bool.false_eq_true, Bool.not_true, Bool.not_false, Bool.true_and, Bool.false_and, Bool.and_true, Bool.and_false, Bool.or_true, Bool.or_false, Bool.true_or, Bool.false_or, true_and, and_true, Option.isSome_some, List.length_cons, List.length_nil, ofS_beq, String.reduceBEq, h2, oIn_s2, iff_whole, g, e_v, e_w, e_a, e_r, e_n, e_f, e_o, e_c, e_s, e_t, e_b]
    exact q
/-! ### the dicts of forms -/
theorem val_fD {w : Str} : ∀ fs : List (Str × Str), valT (fD fs) (.inr w) = (lookF w fs).map T.str
  | [] => rfl
  | (k, t) :: fs => by
    have ih := val_fD (w := w) fs
    unfold valT fD at ih ⊢
    rw [List.map_cons]
    simp only [lookF]
    by_cases e : k = w
    · rw [if_pos e, List.find?_cons_of_pos (by simp [e])]
      rfl
    · rw [if_neg e, List.find?_cons_of_neg (by simp [e])]
      exact ih
theorem dg_fD {S : Sto} {c : Addr} {fs : List (Str × Str)} (h : S c = some (.dK (fD fs))) (w : Str) : dgT S c (.str w) = some ((lookF w fs).map T.str) := by
  unfold dgT
  rw [h]
  simp only [keyT, Option.map_some]
  rw [val_fD]
theorem look_mem {w ks : Str} : ∀ {fs : List (Str × Str)}, lookF w fs = some ks → (w, ks) ∈ fs
  | [], h => by simp [lookF] at h
  | (k, t) :: fs, h => by
    simp only [lookF] at h
    by_cases e : k = w
    · rw [if_pos e] at h
      cases h
      rw [e]; simp
    · rw [if_neg e] at h
      exact List.mem_cons_of_mem _ (look_mem h)
theorem fs_forms : FsOk formsL := by
  refine ⟨by simp [formsL], by decide, by simp [formsL, ofS_eq], ?_, ?_⟩
  · intro p hp
    simp only [formsL, List.mem_cons, List.not_mem_nil, or_false] at hp
    rcases hp with rfl | rfl | rfl | rfl | rfl | rfl | rfl | rfl | rfl | rfl <;> refine ⟨by decide +kernel, fun j hj => ?_⟩ <;>
      simp only [c_vc, c_vv, c_voaa, c_vn, c_na, c_vna, c_naa, c_wfs, c_wvt, c_sa] at hj <;>
      (rcases j with _ | _ | _ | _ | j <;> simp at hj <;> omega)
  · intro p hp
    simp only [formsL, List.mem_cons, List.not_mem_nil, or_false] at hp
    rcases hp with rfl | rfl | rfl | rfl | rfl | rfl | rfl | rfl | rfl | rfl <;> decide +kernel
theorem fs_ends : FsOk endsL := by
  refine ⟨by simp [endsL], by decide, by simp [endsL, ofS_eq], ?_, ?_⟩
  · intro p hp
    simp only [endsL, List.mem_cons, List.not_mem_nil, or_false] at hp
    rcases hp with rfl | rfl | rfl | rfl <;> refine ⟨by decide +kernel, fun j hj => ?_⟩ <;>
      simp only [c_sb, c_abb, c_sr, c_sk] at hj <;>
      (rcases j with _ | _ | _ | _ | j <;> simp at hj <;> omega)
  · intro p hp
    simp only [endsL, List.mem_cons, List.not_mem_nil, or_false] at hp
    rcases hp with rfl | rfl | rfl | rfl <;> decide +kernel
theorem put_new {kvs : List (Key × T)} {k : Key} {v : T} (h : ∀ p ∈ kvs, p.1 ≠ k) : putT kvs k v = kvs ++ [(k, v)] := by
  unfold putT
  rw [if_neg]
  intro e
  obtain ⟨p, hp, he⟩ := List.any_eq_true.mp e
  exact h p hp (of_decide_eq_true he)
theorem merge_app : ∀ {more kvs : List (Key × T)}, ((kvs ++ more).map (·.1)).Nodup → mergeT kvs more = kvs ++ more
  | [], kvs, _ => by rw [List.append_nil]; rfl
  | (k, v) :: more, kvs, h => by
    have hk : ∀ p ∈ kvs, p.1 ≠ k := by
      intro p hp e
      rw [List.map_append, List.map_cons, List.nodup_append] at h
      exact h.2.2 p.1 (List.mem_map_of_mem hp) k (by simp) e
    show mergeT (putT kvs k v) more = _
    rw [put_new hk, merge_app (by rw [List.append_assoc]; exact h), List.append_assoc]
    rfl
theorem merge_nodup {fs : List (Str × Str)} (hn : (fs.map (·.1)).Nodup) : mergeT [] (fD fs) = fD fs := by
  rw [merge_app]
  · rfl
  · have e : (([] ++ fD fs : List (Key × T)).map Prod.fst) = (fs.map Prod.fst).map (fun z => (Sum.inr z : Key)) := by
      unfold fD; simp [List.map_map, Function.comp_def]
    rw [e]
    refine List.Pairwise.map _ (fun a b h e => h (Sum.inr.inj e)) hn
theorem u_p0 {ρ : Sl} {S : Sto} {RP : List (T × T) → Sto → Prop} : (wPairs [] ρ S RP) = (RP [] S) := rfl
theorem u_p1 {wk wv : WE} {r : List (WE × WE)} {ρ : Sl} {S : Sto} {RP : List (T × T) → Sto → Prop} : (wPairs ((wk, wv) :: r) ρ S RP) = (wk ρ S fun x S1 => wv ρ S1 fun y S2 => wPairs r ρ S2 fun ps S3 => RP ((x, y) :: ps) S3) := rfl
theorem u_disp {trs : List (WE × WE)} {ρ : Sl} {S : Sto} {R : Post} : (wDisp trs ρ S R) = (wPairs trs ρ S fun ps S1 => ∃ kvs, keyPs ps = some kvs ∧ kvs.length ≤ 15 ∧ ∀ a, S1 a = none → R (.ref a) (supd S1 a (.dK (mergeT [] kvs)))) := rfl
/-- a dict display with the texts fs -/
theorem disp_fD {S : Sto} {R : Post} {ps : List (T × T)} {fs : List (Str × Str)} (h : keyPs ps = some (fD fs)) (hl : fs.length ≤ 15) (hn : (fs.map (·.1)).Nodup) (q : ∀ a, S a = none → R (.ref a) (supd S a (.dK (fD fs)))) :
    ∃ kvs, keyPs ps = some kvs ∧ kvs.length ≤ 15 ∧ ∀ a, S a = none → R (.ref a) (supd S a (.dK (mergeT [] kvs))) := by
  refine ⟨_, h, by unfold fD; rw [List.length_map]; exact hl, fun a ha => ?_⟩
  rw [merge_nodup hn]
  exact q a ha
theorem ok_law_forms : ∀ ts S R, sp_law_forms ts S R → w_law_forms { nx := fun _ S' => R .non S', rt := R } (startT n_law_forms ts) S := by
  rintro ts S R ⟨rfl, q⟩
  rw [show startT n_law_forms [] = [none] from rfl]
  unfold w_law_forms
  simp only [↓u_sRet, ↓u_sRetN, ↓u_sNext, ↓u_sBrk, ↓u_sCont, ↓u_sSeq, ↓u_sDrop, ↓u_sIf, ↓u_wNil, ↓u_wCons, ↓u_wTup, ↓u_wLst, ↓u_wTst, ↓u_wTru, ↓u_wAnd, ↓u_wOr, ↓u_wNot, ↓u_wAndV, ↓u_wOrV, ↓u_wNotV, ↓u_wIfE, ↓u_wC, ↓u_wOp, ↓u_wUn, ↓u_wCall, ↓u_wChain, ↓u_wIsi, ↓u_wPart, ↓u_wNoPart, ↓u_wSl, ↓u_slT, ↓u_slL, ↓u_wMeth, ↓u_wKGet, ↓u_wInK, ↓u_sAsg, ↓u_exbl, ↓u_exint, ↓u_exstr, ↓u_exref, ↓u_exsome, ↓u_trubl, ↓u_truint, ↓u_trunon, ↓u_trulst, ↓u_trutup, ↓oEq_ss, ↓oEq_ii, ↓oEq_bb, ↓oEq_ni, ↓oNe_ss, ↓oNe_ii, ↓oNe_bb, ↓oEq_l0, ↓oNe_l0, ↓oEq_t0, ↓oNe_t0, ↓oLt_ii, ↓oLe_ii, ↓oGt_ii, ↓oGe_ii, ↓oSub_ii, ↓oAdd_ii, ↓u_lenT, ↓u_lenL, ↓u_isnon, ↓u_ixtup0, ↓u_ixlst0, ↓u_ixtup1, ↓u_ixlst1, ↓u_ixtup2, ↓u_ixlst2, ↓u_ixtup3, ↓u_ixlst3, ↓u_ixtup4, ↓u_ixlst4, ↓u_ixtup5, ↓u_ixlst5, ↓u_v0, ↓u_s0, ↓u_v1, ↓u_s1, ↓u_v2, ↓u_s2, ↓u_v3, ↓u_s3, ↓u_v4, ↓u_s4, ↓u_v5, ↓u_s5, ↓u_v6, ↓u_s6, ↓u_v7, ↓u_s7, ↓u_v8, ↓u_s8, ↓u_v9, ↓u_s9, ↓u_v10, ↓u_s10, ↓u_v11, ↓u_s11, ↓u_v12, ↓u_s12, ↓u_v13, ↓u_s13, ↓u_v14, ↓u_s14, ↓u_v15, ↓u_s15, ↓u_v16, ↓u_s16, ↓u_v17, ↓u_s17, ↓u_v18, ↓u_s18, ↓u_v19, ↓u_s19, if_true, if_false, Bool.false_eq_true, Bool.not_true, Bool.not_false, Bool.true_and, Bool.false_and, Bool.and_true, Bool.and_false, Bool.or_true, Bool.or_false, Bool.true_or, Bool.false_or, true_and, and_true, Option.isSome_some, List.length_cons, List.length_nil, ofS_beq, String.reduceBEq, ↓u_disp, ↓u_p0, ↓u_p1]
  refine ⟨fD [("const", "vc"), ("copy", "vv"), ("op", "voaa"), ("load", "vn"), ("store", "na"), ("read", "vna"), ("write", "naa")], rfl, by unfold fD; rw [List.length_map]; decide, fun a ha => ?_⟩
  rw [merge_nodup (by simp [ofS_eq])]
  refine ⟨by simp [tyT, supd_same], ⟨fD [("call", "wfs"), ("apply", "wvt"), ("print", "a")], rfl, by unfold fD; rw [List.length_map]; decide, fun b hb => ?_⟩⟩
  rw [merge_nodup (by simp [ofS_eq])]
  have hab : a ≠ b := fun e => by rw [← e, supd_same] at hb; cases hb
  have hsl := sizeLine_eq
  refine ⟨a, b, _, _, rfl, rfl, hab, (supd_ne hab).trans supd_same, supd_same, by unfold fD; simp only [List.length_map, List.length_cons, List.length_nil]; omega, ?_⟩
  have hm : mergeT (fD [("const", "vc"), ("copy", "vv"), ("op", "voaa"), ("load", "vn"), ("store", "na"), ("read", "vna"), ("write", "naa")]) (fD [("call", "wfs"), ("apply", "wvt"), ("print", "a")]) = fD formsL := by
    rw [merge_app (by simp [fD, ofS_eq])]
    rfl
  rw [hm]
  show R (.ref a) _
  refine q a _ ?_ ha supd_same
  intro x v hx
  have hxa : x ≠ a := fun e => by rw [e, ha] at hx; cases hx
  have hxb : x ≠ b := fun e => by
    rw [supd_ne hab.symm] at hb
    rw [e, hb] at hx
    cases hx
  rw [supd_ne hxa, supd_ne hxb, supd_ne hxa]
  exact hx
/-! ### zip -/
theorem wLc_zipF {w w2 : WE} {tg : Tg} {tt : WB} {we : WE} {vs : List Nat} {ρ : Sl} {S : Sto} {R : Post} {t t2 : T} {ts ts2 : List T} (p : T → Bool) (f : T → T) (hw : ∀ R' : Post, R' t S → w ρ S R') (hw2 : ∀ R' : Post, R' t2 S → w2 ρ S R') (hi : itemsT t = some ts) (hi2 : itemsT t2 = some ts2) (hl : (zipT ts ts2).length ≤ sizeLine)
    (h : ∀ x ∈ zipT ts ts2, ∃ ρ1, asg tg x (wipeT ρ vs) = some ρ1 ∧ (∀ R' : Bool → Sto → Prop, R' (p x) S → tt ρ1 S R') ∧ ∀ R' : Post, R' (f x) S → we ρ1 S R') (q : R (.lst (((zipT ts ts2).filter p).map f)) S) : wLc (wZip w w2) tg tt we vs ρ S R :=
  hw _ (hw2 _ ⟨ts, ts2, hi, hi2, hl, lc_filter p f h (by simpa using q)⟩)
theorem zip_mem : ∀ {xs ys : List T} {x : T}, x ∈ zipT xs ys → ∃ (i : Nat) (a b : T), xs[i]? = some a ∧ ys[i]? = some b ∧ x = .tup [a, b]
  | [], _, _, h => by simp [zipT] at h
  | _ :: _, [], _, h => by simp [zipT] at h
  | a :: xs, b :: ys, x, h => by
    simp only [zipT] at h
    rcases List.mem_cons.mp h with e | h
    · exact ⟨0, a, b, rfl, rfl, e⟩
    · obtain ⟨i, a', b', h1, h2, h3⟩ := zip_mem h
      exact ⟨i + 1, a', b', by simpa using h1, by simpa using h2, h3⟩
def pz (n : Int) (x : T) : Bool := match x with
  | .tup [.str k, y] => partT k y n
  | _ => false
theorem zip_parts {n : Int} : ∀ {cs : List Nat} {ts : List T}, cs.length = ts.length → ((zipT (cs.map fun c => T.str ⟨#[c]⟩) ts).all (pz n)) = partsT n cs ts
  | [], [], _ => rfl
  | [], _ :: _, h => by simp at h
  | _ :: _, [], h => by simp at h
  | c :: cs, t :: ts, h => by
    simp only [List.map_cons, zipT, List.all_cons, partsT]
    rw [zip_parts (by simpa using h)]
    rfl
theorem cut1 (x : T) (l : List T) : cutT (x :: l) (some 1) none = l := by
  unfold cutT HT.sIx
  simp
theorem ok_law_is_built : ∀ ts S R, sp_law_is_built ts S R → w_law_is_built { nx := fun _ S' => R .non S', rt := R } (startT n_law_is_built ts) S := by
  rintro ts S R ⟨c, t, n, fs, rfl, hc, hfs, g, q⟩
  rw [show startT n_law_is_built [.ref c, t, .int n] = [some (.ref c), some t, some (.int n), none, none, none] from rfl]
  unfold w_law_is_built
  have hsl := sizeLine_eq
  have h0 : (0 : Nat) ≤ sizeLine := Nat.zero_le _
  have i1 := (gt_isa g).2.2.2
  have i2 := gt_ty g
  cases t with
  | tup ts =>
    cases ts with
    | nil => simp only [↓u_sRet, ↓u_sRetN, ↓u_sNext, ↓u_sBrk, ↓u_sCont, ↓u_sSeq, ↓u_sDrop, ↓u_sIf, ↓u_wNil, ↓u_wCons, ↓u_wTup, ↓u_wLst, ↓u_wTst, ↓u_wTru, ↓u_wAnd, ↓u_wOr, ↓u_wNot, ↓u_wAndV, ↓u_wOrV, ↓u_wNotV, ↓u_wIfE, ↓u_wC, ↓u_wOp, ↓u_wUn, ↓u_wCall, ↓u_wChain, ↓u_wIsi, ↓u_wPart, ↓u_wNoPart, ↓u_wSl, ↓u_slT, ↓u_slL, ↓u_wMeth, ↓u_wKGet, ↓u_wInK, ↓u_sAsg, ↓u_exbl, ↓u_exint, ↓u_exstr, ↓u_exref, ↓u_exsome, ↓u_trubl, ↓u_truint, ↓u_trunon, ↓u_trulst, ↓u_trutup, ↓oEq_ss, ↓oEq_ii, ↓oEq_bb, ↓oEq_ni, ↓oNe_ss, ↓oNe_ii, ↓oNe_bb, ↓oEq_l0, ↓oNe_l0, ↓oEq_t0, ↓oNe_t0, ↓oLt_ii, ↓oLe_ii, ↓oGt_ii, ↓oGe_ii, ↓oSub_ii, ↓oAdd_ii, ↓u_lenT, ↓u_lenL, ↓u_isnon, ↓u_ixtup0, ↓u_ixlst0, ↓u_ixtup1, ↓u_ixlst1, ↓u_ixtup2, ↓u_ixlst2, ↓u_ixtup3, ↓u_ixlst3, ↓u_ixtup4, ↓u_ixlst4, ↓u_ixtup5, ↓u_ixlst5, ↓u_v0, ↓u_s0, ↓u_v1, ↓u_s1, ↓u_v2, ↓u_s2, ↓u_v3, ↓u_s3, ↓u_v4, ↓u_s4, ↓u_v5, ↓u_s5, ↓u_v6, ↓u_s6, ↓u_v7, ↓u_s7, ↓u_v8, ↓u_s8, ↓u_v9, ↓u_s9, ↓u_v10, ↓u_s10, ↓u_v11, ↓u_s11, ↓u_v12, ↓u_s12, ↓u_v13, ↓u_s13, ↓u_v14, ↓u_s14, ↓u_v15, ↓u_s15, ↓u_v16, ↓u_s16, ↓u_v17, ↓u_s17, ↓u_v18, ↓u_s18, ↓u_v19, ↓u_s19, if_true, if_false, Bool.false_eq_true, Bool.not_true, Bool.not_false, Bool.true_and, Bool.false_and, Bool.and_true, Bool.and_false, Bool.or_true, Bool.or_false, Bool.true_or, Bool.false_or, true_and, and_true, Option.isSome_some, List.length_cons, List.length_nil, ofS_beq, String.reduceBEq, i1, i2, h0]; simpa [builtT] using q
    | cons x args =>
      obtain ⟨p1, g1⟩ := gt1 g
      have j1 := (gt_isa g1).2.2.1
      have j2 := gt_ty g1
      have e0 : (x :: args).isEmpty = false := rfl
      cases x with
      | str w =>
        have hd := dg_fD hc w
        have hin : ∀ R' : Post, wDIn true (wOp oIx (wVar 1) (wC (.int 0))) (wVar 0) [some (.ref c), some (.tup (.str w :: args)), some (.int n), none, none, none] S R' = R' (.bl (!((lookF w fs).map T.str).isSome)) S := by
          intro R'
          apply propext
          simp only [↓u_wDIn, ↓u_sRet, ↓u_sRetN, ↓u_sNext, ↓u_sBrk, ↓u_sCont, ↓u_sSeq, ↓u_sDrop, ↓u_sIf, ↓u_wNil, ↓u_wCons, ↓u_wTup, ↓u_wLst, ↓u_wTst, ↓u_wTru, ↓u_wAnd, ↓u_wOr, ↓u_wNot, ↓u_wAndV, ↓u_wOrV, ↓u_wNotV, ↓u_wIfE, ↓u_wC, ↓u_wOp, ↓u_wUn, ↓u_wCall, ↓u_wChain, ↓u_wIsi, ↓u_wPart, ↓u_wNoPart, ↓u_wSl, ↓u_slT, ↓u_slL, ↓u_wMeth, ↓u_wKGet, ↓u_wInK, ↓u_sAsg, ↓u_exbl, ↓u_exint, ↓u_exstr, ↓u_exref, ↓u_exsome, ↓u_trubl, ↓u_truint, ↓u_trunon, ↓u_trulst, ↓u_trutup, ↓oEq_ss, ↓oEq_ii, ↓oEq_bb, ↓oEq_ni, ↓oNe_ss, ↓oNe_ii, ↓oNe_bb, ↓oEq_l0, ↓oNe_l0, ↓oEq_t0, ↓oNe_t0, ↓oLt_ii, ↓oLe_ii, ↓oGt_ii, ↓oGe_ii, ↓oSub_ii, ↓oAdd_ii, ↓u_lenT, ↓u_lenL, ↓u_isnon, ↓u_ixtup0, ↓u_ixlst0, ↓u_ixtup1, ↓u_ixlst1, ↓u_ixtup2, ↓u_ixlst2, ↓u_ixtup3, ↓u_ixlst3, ↓u_ixtup4, ↓u_ixlst4, ↓u_ixtup5, ↓u_ixlst5, ↓u_v0, ↓u_s0, ↓u_v1, ↓u_s1, ↓u_v2, ↓u_s2, ↓u_v3, ↓u_s3, ↓u_v4, ↓u_s4, ↓u_v5, ↓u_s5, ↓u_v6, ↓u_s6, ↓u_v7, ↓u_s7, ↓u_v8, ↓u_s8, ↓u_v9, ↓u_s9, ↓u_v10, ↓u_s10, ↓u_v11, ↓u_s11, ↓u_v12, ↓u_s12, ↓u_v13, ↓u_s13, ↓u_v14, ↓u_s14, ↓u_v15, ↓u_s15, ↓u_v16, ↓u_s16, ↓u_v17, ↓u_s17, ↓u_v18, ↓u_s18, ↓u_v19, ↓u_s19, if_true, if_false, Bool.false_eq_true, Bool.not_true, Bool.not_false, Bool.true_and, Bool.false_and, Bool.and_true, Bool.and_false, Bool.or_true, Bool.or_false, Bool.true_or, Bool.false_or, true_and, and_true, Option.isSome_some, List.length_cons, List.length_nil, ofS_beq, String.reduceBEq]
          exact ⟨fun ⟨a, o, e, h, r⟩ => by cases e; rw [hd] at h; cases h; exact r, fun r => ⟨c, _, rfl, hd, r⟩⟩
        have hgt : ∀ (ks : Str) (R' : Post), lookF w fs = some ks → wDGet (wVar 0) (wOp oIx (wVar 1) (wC (.int 0))) [some (.ref c), some (.tup (.str w :: args)), some (.int n), none, none, none] S R' = R' (.str ks) S := by
          intro ks R' hk
          rw [hk] at hd
          apply propext
          simp only [↓u_wDGet, ↓u_sRet, ↓u_sRetN, ↓u_sNext, ↓u_sBrk, ↓u_sCont, ↓u_sSeq, ↓u_sDrop, ↓u_sIf, ↓u_wNil, ↓u_wCons, ↓u_wTup, ↓u_wLst, ↓u_wTst, ↓u_wTru, ↓u_wAnd, ↓u_wOr, ↓u_wNot, ↓u_wAndV, ↓u_wOrV, ↓u_wNotV, ↓u_wIfE, ↓u_wC, ↓u_wOp, ↓u_wUn, ↓u_wCall, ↓u_wChain, ↓u_wIsi, ↓u_wPart, ↓u_wNoPart, ↓u_wSl, ↓u_slT, ↓u_slL, ↓u_wMeth, ↓u_wKGet, ↓u_wInK, ↓u_sAsg, ↓u_exbl, ↓u_exint, ↓u_exstr, ↓u_exref, ↓u_exsome, ↓u_trubl, ↓u_truint, ↓u_trunon, ↓u_trulst, ↓u_trutup, ↓oEq_ss, ↓oEq_ii, ↓oEq_bb, ↓oEq_ni, ↓oNe_ss, ↓oNe_ii, ↓oNe_bb, ↓oEq_l0, ↓oNe_l0, ↓oEq_t0, ↓oNe_t0, ↓oLt_ii, ↓oLe_ii, ↓oGt_ii, ↓oGe_ii, ↓oSub_ii, ↓oAdd_ii, ↓u_lenT, ↓u_lenL, ↓u_isnon, ↓u_ixtup0, ↓u_ixlst0, ↓u_ixtup1, ↓u_ixlst1, ↓u_ixtup2, ↓u_ixlst2, ↓u_ixtup3, ↓u_ixlst3, ↓u_ixtup4, ↓u_ixlst4, ↓u_ixtup5, ↓u_ixlst5, ↓u_v0, ↓u_s0, ↓u_v1, ↓u_s1, ↓u_v2, ↓u_s2, ↓u_v3, ↓u_s3, ↓u_v4, ↓u_s4, ↓u_v5, ↓u_s5, ↓u_v6, ↓u_s6, ↓u_v7, ↓u_s7, ↓u_v8, ↓u_s8, ↓u_v9, ↓u_s9, ↓u_v10, ↓u_s10, ↓u_v11, ↓u_s11, ↓u_v12, ↓u_s12, ↓u_v13, ↓u_s13, ↓u_v14, ↓u_s14, ↓u_v15, ↓u_s15, ↓u_v16, ↓u_s16, ↓u_v17, ↓u_s17, ↓u_v18, ↓u_s18, ↓u_v19, ↓u_s19, if_true, if_false, Bool.false_eq_true, Bool.not_true, Bool.not_false, Bool.true_and, Bool.false_and, Bool.and_true, Bool.and_false, Bool.or_true, Bool.or_false, Bool.true_or, Bool.false_or, true_and, and_true, Option.isSome_some, List.length_cons, List.length_nil, ofS_beq, String.reduceBEq]
          exact ⟨fun ⟨a, o, e, h, r⟩ => by cases e; rw [hd] at h; cases h; exact r, fun r => ⟨c, _, rfl, hd, r⟩⟩
        simp only [builtT] at q
        cases hk : lookF w fs with
        | none =>
          rw [hk] at q
          have e1 : (Option.map T.str (none : Option Str)).isSome = false := rfl
          rw [hk] at hin
          simp only [↓u_sRet, ↓u_sRetN, ↓u_sNext, ↓u_sBrk, ↓u_sCont, ↓u_sSeq, ↓u_sDrop, ↓u_sIf, ↓u_wNil, ↓u_wCons, ↓u_wTup, ↓u_wLst, ↓u_wTst, ↓u_wTru, ↓u_wAnd, ↓u_wOr, ↓u_wNot, ↓u_wAndV, ↓u_wOrV, ↓u_wNotV, ↓u_wIfE, ↓u_wC, ↓u_wOp, ↓u_wUn, ↓u_wCall, ↓u_wChain, ↓u_wIsi, ↓u_wPart, ↓u_wNoPart, ↓u_wSl, ↓u_slT, ↓u_slL, ↓u_wMeth, ↓u_wKGet, ↓u_wInK, ↓u_sAsg, ↓u_exbl, ↓u_exint, ↓u_exstr, ↓u_exref, ↓u_exsome, ↓u_trubl, ↓u_truint, ↓u_trunon, ↓u_trulst, ↓u_trutup, ↓oEq_ss, ↓oEq_ii, ↓oEq_bb, ↓oEq_ni, ↓oNe_ss, ↓oNe_ii, ↓oNe_bb, ↓oEq_l0, ↓oNe_l0, ↓oEq_t0, ↓oNe_t0, ↓oLt_ii, ↓oLe_ii, ↓oGt_ii, ↓oGe_ii, ↓oSub_ii, ↓oAdd_ii, ↓u_lenT, ↓u_lenL, ↓u_isnon, ↓u_ixtup0, ↓u_ixlst0, ↓u_ixtup1, ↓u_ixlst1, ↓u_ixtup2, ↓u_ixlst2, ↓u_ixtup3, ↓u_ixlst3, ↓u_ixtup4, ↓u_ixlst4, ↓u_ixtup5, ↓u_ixlst5, ↓u_v0, ↓u_s0, ↓u_v1, ↓u_s1, ↓u_v2, ↓u_s2, ↓u_v3, ↓u_s3, ↓u_v4, ↓u_s4, ↓u_v5, ↓u_s5, ↓u_v6, ↓u_s6, ↓u_v7, ↓u_s7, ↓u_v8, ↓u_s8, ↓u_v9, ↓u_s9, ↓u_v10, ↓u_s10, ↓u_v11, ↓u_s11, ↓u_v12, ↓u_s12, ↓u_v13, ↓u_s13, ↓u_v14, ↓u_s14, ↓u_v15, ↓u_s15, ↓u_v16, ↓u_s16, ↓u_v17, ↓u_s17, ↓u_v18, ↓u_s18, ↓u_v19, ↓u_s19, if_true, if_false, Bool.false_eq_true, Bool.not_true, Bool.not_false, Bool.true_and, Bool.false_and, Bool.and_true, Bool.and_false, Bool.or_true, Bool.or_false, Bool.true_or, Bool.false_or, true_and, and_true, Option.isSome_some, List.length_cons, List.length_nil, ofS_beq, String.reduceBEq, ↓hin, i1, i2, h0, e0, j1, j2, e1]
          exact q
        | some ks =>
          rw [hk] at q
          have e1 : (Option.map T.str (some ks)).isSome = true := rfl
          rw [hk] at hin
          have hks : ks.length ≤ 10 := (hfs.2.2.2.1 _ (look_mem hk)).1
          have ho := (hfs.2.2.2.1 _ (look_mem hk)).2
          have hl : ∀ (S' : Sto) (R' : Post), oLen [.str ks] S' R' = R' (.int (ks.length : Nat)) S' := fun S' R' => propext (oLen_1 (by simp [lenT]; omega))
          have hg := fun R' => hgt ks R' hk
          have hlc : ks.length = ks.cps.toList.length := by simp [Str.length]
          simp only [↓u_sRet, ↓u_sRetN, ↓u_sNext, ↓u_sBrk, ↓u_sCont, ↓u_sSeq, ↓u_sDrop, ↓u_sIf, ↓u_wNil, ↓u_wCons, ↓u_wTup, ↓u_wLst, ↓u_wTst, ↓u_wTru, ↓u_wAnd, ↓u_wOr, ↓u_wNot, ↓u_wAndV, ↓u_wOrV, ↓u_wNotV, ↓u_wIfE, ↓u_wC, ↓u_wOp, ↓u_wUn, ↓u_wCall, ↓u_wChain, ↓u_wIsi, ↓u_wPart, ↓u_wNoPart, ↓u_wSl, ↓u_slT, ↓u_slL, ↓u_wMeth, ↓u_wKGet, ↓u_wInK, ↓u_sAsg, ↓u_exbl, ↓u_exint, ↓u_exstr, ↓u_exref, ↓u_exsome, ↓u_trubl, ↓u_truint, ↓u_trunon, ↓u_trulst, ↓u_trutup, ↓oEq_ss, ↓oEq_ii, ↓oEq_bb, ↓oEq_ni, ↓oNe_ss, ↓oNe_ii, ↓oNe_bb, ↓oEq_l0, ↓oNe_l0, ↓oEq_t0, ↓oNe_t0, ↓oLt_ii, ↓oLe_ii, ↓oGt_ii, ↓oGe_ii, ↓oSub_ii, ↓oAdd_ii, ↓u_lenT, ↓u_lenL, ↓u_isnon, ↓u_ixtup0, ↓u_ixlst0, ↓u_ixtup1, ↓u_ixlst1, ↓u_ixtup2, ↓u_ixlst2, ↓u_ixtup3, ↓u_ixlst3, ↓u_ixtup4, ↓u_ixlst4, ↓u_ixtup5, ↓u_ixlst5, ↓u_v0, ↓u_s0, ↓u_v1, ↓u_s1, ↓u_v2, ↓u_s2, ↓u_v3, ↓u_s3, ↓u_v4, ↓u_s4, ↓u_v5, ↓u_s5, ↓u_v6, ↓u_s6, ↓u_v7, ↓u_s7, ↓u_v8, ↓u_s8, ↓u_v9, ↓u_s9, ↓u_v10, ↓u_s10, ↓u_v11, ↓u_s11, ↓u_v12, ↓u_s12, ↓u_v13, ↓u_s13, ↓u_v14, ↓u_s14, ↓u_v15, ↓u_s15, ↓u_v16, ↓u_s16, ↓u_v17, ↓u_s17, ↓u_v18, ↓u_s18, ↓u_v19, ↓u_s19, if_true, if_false, Bool.false_eq_true, Bool.not_true, Bool.not_false, Bool.true_and, Bool.false_and, Bool.and_true, Bool.and_false, Bool.or_true, Bool.or_false, Bool.true_or, Bool.false_or, true_and, and_true, Option.isSome_some, List.length_cons, List.length_nil, ofS_beq, String.reduceBEq, ↓hin, ↓hg, ↓hl, i1, i2, h0, e0, j1, j2, e1]
          by_cases hlen : args.length = ks.length
          · rw [if_neg (by simp [hlen])]
            have q : R (.bl (partsT n ks.cps.toList args)) S := q
            rw [← zip_parts (by rw [← hlc, hlen])] at q
            refine wLc_zipF (t := .str ks) (t2 := .tup args) (ts := ks.cps.toList.map fun c => T.str ⟨#[c]⟩) (ts2 := args) (fun x => !pz n x) (fun _ => .int 1) (fun R' q' => by simp only [↓u_sRet, ↓u_sRetN, ↓u_sNext, ↓u_sBrk, ↓u_sCont, ↓u_sSeq, ↓u_sDrop, ↓u_sIf, ↓u_wNil, ↓u_wCons, ↓u_wTup, ↓u_wLst, ↓u_wTst, ↓u_wTru, ↓u_wAnd, ↓u_wOr, ↓u_wNot, ↓u_wAndV, ↓u_wOrV, ↓u_wNotV, ↓u_wIfE, ↓u_wC, ↓u_wOp, ↓u_wUn, ↓u_wCall, ↓u_wChain, ↓u_wIsi, ↓u_wPart, ↓u_wNoPart, ↓u_wSl, ↓u_slT, ↓u_slL, ↓u_wMeth, ↓u_wKGet, ↓u_wInK, ↓u_sAsg, ↓u_exbl, ↓u_exint, ↓u_exstr, ↓u_exref, ↓u_exsome, ↓u_trubl, ↓u_truint, ↓u_trunon, ↓u_trulst, ↓u_trutup, ↓oEq_ss, ↓oEq_ii, ↓oEq_bb, ↓oEq_ni, ↓oNe_ss, ↓oNe_ii, ↓oNe_bb, ↓oEq_l0, ↓oNe_l0, ↓oEq_t0, ↓oNe_t0, ↓oLt_ii, ↓oLe_ii, ↓oGt_ii, ↓oGe_ii, ↓oSub_ii, ↓oAdd_ii, ↓u_lenT, ↓u_lenL, ↓u_isnon, ↓u_ixtup0, ↓u_ixlst0, ↓u_ixtup1, ↓u_ixlst1, ↓u_ixtup2, ↓u_ixlst2, ↓u_ixtup3, ↓u_ixlst3, ↓u_ixtup4, ↓u_ixlst4, ↓u_ixtup5, ↓u_ixlst5, ↓u_v0, ↓u_s0, ↓u_v1, ↓u_s1, ↓u_v2, ↓u_s2, ↓u_v3, ↓u_s3, ↓u_v4, ↓u_s4, ↓u_v5, ↓u_s5, ↓u_v6, ↓u_s6, ↓u_v7, ↓u_s7, ↓u_v8, ↓u_s8, ↓u_v9, ↓u_s9, ↓u_v10, ↓u_s10, ↓u_v11, ↓u_s11, ↓u_v12, ↓u_s12, ↓u_v13, ↓u_s13, ↓u_v14, ↓u_s14, ↓u_v15, ↓u_s15, ↓u_v16, ↓u_s16, ↓u_v17, ↓u_s17, ↓u_v18, ↓u_s18, ↓u_v19, ↓u_s19, if_true, if_false, Bool.false_eq_true, Bool.not_true, Bool.not_false, Bool.true_and, Bool.false_and, Bool.and_true, Bool.and_false, Bool.or_true, Bool.or_false, Bool.true_or, Bool.false_or, true_and, and_true, Option.isSome_some, List.length_cons, List.length_nil, ofS_beq, String.reduceBEq]; exact q') (fun R' q' => by simp only [↓u_sRet, ↓u_sRetN, ↓u_sNext, ↓u_sBrk, ↓u_sCont, ↓u_sSeq, ↓u_sDrop, ↓u_sIf, ↓u_wNil, ↓u_wCons, ↓u_wTup, ↓u_wLst, ↓u_wTst, ↓u_wTru, ↓u_wAnd, ↓u_wOr, ↓u_wNot, ↓u_wAndV, ↓u_wOrV, ↓u_wNotV, ↓u_wIfE, ↓u_wC, ↓u_wOp, ↓u_wUn, ↓u_wCall, ↓u_wChain, ↓u_wIsi, ↓u_wPart, ↓u_wNoPart, ↓u_wSl, ↓u_slT, ↓u_slL, ↓u_wMeth, ↓u_wKGet, ↓u_wInK, ↓u_sAsg, ↓u_exbl, ↓u_exint, ↓u_exstr, ↓u_exref, ↓u_exsome, ↓u_trubl, ↓u_truint, ↓u_trunon, ↓u_trulst, ↓u_trutup, ↓oEq_ss, ↓oEq_ii, ↓oEq_bb, ↓oEq_ni, ↓oNe_ss, ↓oNe_ii, ↓oNe_bb, ↓oEq_l0, ↓oNe_l0, ↓oEq_t0, ↓oNe_t0, ↓oLt_ii, ↓oLe_ii, ↓oGt_ii, ↓oGe_ii, ↓oSub_ii, ↓oAdd_ii, ↓u_lenT, ↓u_lenL, ↓u_isnon, ↓u_ixtup0, ↓u_ixlst0, ↓u_ixtup1, ↓u_ixlst1, ↓u_ixtup2, ↓u_ixlst2, ↓u_ixtup3, ↓u_ixlst3, ↓u_ixtup4, ↓u_ixlst4, ↓u_ixtup5, ↓u_ixlst5, ↓u_v0, ↓u_s0, ↓u_v1, ↓u_s1, ↓u_v2, ↓u_s2, ↓u_v3, ↓u_s3, ↓u_v4, ↓u_s4, ↓u_v5, ↓u_s5, ↓u_v6, ↓u_s6, ↓u_v7, ↓u_s7, ↓u_v8, ↓u_s8, ↓u_v9, ↓u_s9, ↓u_v10, ↓u_s10, ↓u_v11, ↓u_s11, ↓u_v12, ↓u_s12, ↓u_v13, ↓u_s13, ↓u_v14, ↓u_s14, ↓u_v15, ↓u_s15, ↓u_v16, ↓u_s16, ↓u_v17, ↓u_s17, ↓u_v18, ↓u_s18, ↓u_v19, ↓u_s19, if_true, if_false, Bool.false_eq_true, Bool.not_true, Bool.not_false, Bool.true_and, Bool.false_and, Bool.and_true, Bool.and_false, Bool.or_true, Bool.or_false, Bool.true_or, Bool.false_or, true_and, and_true, Option.isSome_some, List.length_cons, List.length_nil, ofS_beq, String.reduceBEq, cut1]; exact q') rfl rfl ?_ (fun x hx => ?_) ?_
            · rw [zipT_length, List.length_map, ← hlc]; omega
            · obtain ⟨i, a, b, h1, h2, rfl⟩ := zip_mem hx
              obtain ⟨cc, hcc, rfl⟩ : ∃ cc, ks.cps.toList[i]? = some cc ∧ a = .str ⟨#[cc]⟩ := by
                rw [List.getElem?_map] at h1
                cases h : ks.cps.toList[i]? with
                | none => rw [h] at h1; cases h1
                | some cc => rw [h] at h1; exact ⟨cc, rfl, (Option.some.inj h1).symm⟩
              refine ⟨_, rfl, fun R' q' => ?_, fun R' q' => q'⟩
              show wNot (wTru (wCall sp_law_is_part _)) [some (.ref c), some (.tup (.str w :: args)), some (.int n), some (.str ks), some (.str ⟨#[cc]⟩), some b] S R'
              simp only [↓u_sRet, ↓u_sRetN, ↓u_sNext, ↓u_sBrk, ↓u_sCont, ↓u_sSeq, ↓u_sDrop, ↓u_sIf, ↓u_wNil, ↓u_wCons, ↓u_wTup, ↓u_wLst, ↓u_wTst, ↓u_wTru, ↓u_wAnd, ↓u_wOr, ↓u_wNot, ↓u_wAndV, ↓u_wOrV, ↓u_wNotV, ↓u_wIfE, ↓u_wC, ↓u_wOp, ↓u_wUn, ↓u_wCall, ↓u_wChain, ↓u_wIsi, ↓u_wPart, ↓u_wNoPart, ↓u_wSl, ↓u_slT, ↓u_slL, ↓u_wMeth, ↓u_wKGet, ↓u_wInK, ↓u_sAsg, ↓u_exbl, ↓u_exint, ↓u_exstr, ↓u_exref, ↓u_exsome, ↓u_trubl, ↓u_truint, ↓u_trunon, ↓u_trulst, ↓u_trutup, ↓oEq_ss, ↓oEq_ii, ↓oEq_bb, ↓oEq_ni, ↓oNe_ss, ↓oNe_ii, ↓oNe_bb, ↓oEq_l0, ↓oNe_l0, ↓oEq_t0, ↓oNe_t0, ↓oLt_ii, ↓oLe_ii, ↓oGt_ii, ↓oGe_ii, ↓oSub_ii, ↓oAdd_ii, ↓u_lenT, ↓u_lenL, ↓u_isnon, ↓u_ixtup0, ↓u_ixlst0, ↓u_ixtup1, ↓u_ixlst1, ↓u_ixtup2, ↓u_ixlst2, ↓u_ixtup3, ↓u_ixlst3, ↓u_ixtup4, ↓u_ixlst4, ↓u_ixtup5, ↓u_ixlst5, ↓u_v0, ↓u_s0, ↓u_v1, ↓u_s1, ↓u_v2, ↓u_s2, ↓u_v3, ↓u_s3, ↓u_v4, ↓u_s4, ↓u_v5, ↓u_s5, ↓u_v6, ↓u_s6, ↓u_v7, ↓u_s7, ↓u_v8, ↓u_s8, ↓u_v9, ↓u_s9, ↓u_v10, ↓u_s10, ↓u_v11, ↓u_s11, ↓u_v12, ↓u_s12, ↓u_v13, ↓u_s13, ↓u_v14, ↓u_s14, ↓u_v15, ↓u_s15, ↓u_v16, ↓u_s16, ↓u_v17, ↓u_s17, ↓u_v18, ↓u_s18, ↓u_v19, ↓u_s19, if_true, if_false, Bool.false_eq_true, Bool.not_true, Bool.not_false, Bool.true_and, Bool.false_and, Bool.and_true, Bool.and_false, Bool.or_true, Bool.or_false, Bool.true_or, Bool.false_or, true_and, and_true, Option.isSome_some, List.length_cons, List.length_nil, ofS_beq, String.reduceBEq]
              refine ⟨_, _, _, rfl, gt_mem g (List.mem_cons_of_mem _ (List.mem_of_getElem? h2)), fun e => ?_, ?_⟩
              · have e2 : cc = 111 := by
                  have := congrArg (fun z : Str => z.cps) e
                  simpa using this
                rw [e2] at hcc
                exact gt_pl g (i := i + 1) (by simpa using h2) (by have := ho i hcc; omega)
              · exact ⟨_, rfl, q'⟩
            · show oEq _ _ _ _
              rw [oEq_l0, filter_empty]
              simpa using q
          · rw [if_pos (by simp; omega)]
            have : partsT n ks.cps.toList args = false := by
              cases h : partsT n ks.cps.toList args
              · rfl
              · have := parts_len h
                rw [← hlc] at this
                exact absurd this.symm hlen
            rw [← this]
            exact q
      | _ => simp only [↓u_sRet, ↓u_sRetN, ↓u_sNext, ↓u_sBrk, ↓u_sCont, ↓u_sSeq, ↓u_sDrop, ↓u_sIf, ↓u_wNil, ↓u_wCons, ↓u_wTup, ↓u_wLst, ↓u_wTst, ↓u_wTru, ↓u_wAnd, ↓u_wOr, ↓u_wNot, ↓u_wAndV, ↓u_wOrV, ↓u_wNotV, ↓u_wIfE, ↓u_wC, ↓u_wOp, ↓u_wUn, ↓u_wCall, ↓u_wChain, ↓u_wIsi, ↓u_wPart, ↓u_wNoPart, ↓u_wSl, ↓u_slT, ↓u_slL, ↓u_wMeth, ↓u_wKGet, ↓u_wInK, ↓u_sAsg, ↓u_exbl, ↓u_exint, ↓u_exstr, ↓u_exref, ↓u_exsome, ↓u_trubl, ↓u_truint, ↓u_trunon, ↓u_trulst, ↓u_trutup, ↓oEq_ss, ↓oEq_ii, ↓oEq_bb, ↓oEq_ni, ↓oNe_ss, ↓oNe_ii, ↓oNe_bb, ↓oEq_l0, ↓oNe_l0, ↓oEq_t0, ↓oNe_t0, ↓oLt_ii, ↓oLe_ii, ↓oGt_ii, ↓oGe_ii, ↓oSub_ii, ↓oAdd_ii, ↓u_lenT, ↓u_lenL, ↓u_isnon, ↓u_ixtup0, ↓u_ixlst0, ↓u_ixtup1, ↓u_ixlst1, ↓u_ixtup2, ↓u_ixlst2, ↓u_ixtup3, ↓u_ixlst3, ↓u_ixtup4, ↓u_ixlst4, ↓u_ixtup5, ↓u_ixlst5, ↓u_v0, ↓u_s0, ↓u_v1, ↓u_s1, ↓u_v2, ↓u_s2, ↓u_v3, ↓u_s3, ↓u_v4, ↓u_s4, ↓u_v5, ↓u_s5, ↓u_v6, ↓u_s6, ↓u_v7, ↓u_s7, ↓u_v8, ↓u_s8, ↓u_v9, ↓u_s9, ↓u_v10, ↓u_s10, ↓u_v11, ↓u_s11, ↓u_v12, ↓u_s12, ↓u_v13, ↓u_s13, ↓u_v14, ↓u_s14, ↓u_v15, ↓u_s15, ↓u_v16, ↓u_s16, ↓u_v17, ↓u_s17, ↓u_v18, ↓u_s18, ↓u_v19, ↓u_s19, if_true, if_false, Bool.false_eq_true, Bool.not_true, Bool.not_false, Bool.true_and, Bool.false_and, Bool.and_true, Bool.and_false, Bool.or_true, Bool.or_false, Bool.true_or, Bool.false_or, true_and, and_true, Option.isSome_some, List.length_cons, List.length_nil, ofS_beq, String.reduceBEq, i1, i2, h0, e0, j1, j2]; exact q
  | _ => simp only [↓u_sRet, ↓u_sRetN, ↓u_sNext, ↓u_sBrk, ↓u_sCont, ↓u_sSeq, ↓u_sDrop, ↓u_sIf, ↓u_wNil, ↓u_wCons, ↓u_wTup, ↓u_wLst, ↓u_wTst, ↓u_wTru, ↓u_wAnd, ↓u_wOr, ↓u_wNot, ↓u_wAndV, ↓u_wOrV, ↓u_wNotV, ↓u_wIfE, ↓u_wC, ↓u_wOp, ↓u_wUn, ↓u_wCall, ↓u_wChain, ↓u_wIsi, ↓u_wPart, ↓u_wNoPart, ↓u_wSl, ↓u_slT, ↓u_slL, ↓u_wMeth, ↓u_wKGet, ↓u_wInK, ↓u_sAsg, ↓u_exbl, ↓u_exint, ↓u_exstr, ↓u_exref, ↓u_exsome, ↓u_trubl, ↓u_truint, ↓u_trunon, ↓u_trulst, ↓u_trutup, ↓oEq_ss, ↓oEq_ii, ↓oEq_bb, ↓oEq_ni, ↓oNe_ss, ↓oNe_ii, ↓oNe_bb, ↓oEq_l0, ↓oNe_l0, ↓oEq_t0, ↓oNe_t0, ↓oLt_ii, ↓oLe_ii, ↓oGt_ii, ↓oGe_ii, ↓oSub_ii, ↓oAdd_ii, ↓u_lenT, ↓u_lenL, ↓u_isnon, ↓u_ixtup0, ↓u_ixlst0, ↓u_ixtup1, ↓u_ixlst1, ↓u_ixtup2, ↓u_ixlst2, ↓u_ixtup3, ↓u_ixlst3, ↓u_ixtup4, ↓u_ixlst4, ↓u_ixtup5, ↓u_ixlst5, ↓u_v0, ↓u_s0, ↓u_v1, ↓u_s1, ↓u_v2, ↓u_s2, ↓u_v3, ↓u_s3, ↓u_v4, ↓u_s4, ↓u_v5, ↓u_s5, ↓u_v6, ↓u_s6, ↓u_v7, ↓u_s7, ↓u_v8, ↓u_s8, ↓u_v9, ↓u_s9, ↓u_v10, ↓u_s10, ↓u_v11, ↓u_s11, ↓u_v12, ↓u_s12, ↓u_v13, ↓u_s13, ↓u_v14, ↓u_s14, ↓u_v15, ↓u_s15, ↓u_v16, ↓u_s16, ↓u_v17, ↓u_s17, ↓u_v18, ↓u_s18, ↓u_v19, ↓u_s19, if_true, if_false, Bool.false_eq_true, Bool.not_true, Bool.not_false, Bool.true_and, Bool.false_and, Bool.and_true, Bool.and_false, Bool.or_true, Bool.or_false, Bool.true_or, Bool.false_or, true_and, and_true, Option.isSome_some, List.length_cons, List.length_nil, ofS_beq, String.reduceBEq, i1, i2]; exact q
/-! ### more cells -/
mutual
theorem gt_ext {S S' : Sto} (h : Ext S S') : ∀ {t : T}, GT S t → GT S' t
  | .ref a, g => by simp only [GT] at g ⊢; exact h _ _ g
  | .str z, g => by simpa only [GT] using g
  | .arg _, g => by simp only [GT] at g
  | .tup ts, g => by
    simp only [GT] at g ⊢
    exact ⟨g.1, gts_ext h g.2⟩
  | .lst _, _ => by simp only [GT]
  | .non, _ => by simp only [GT]
  | .bl _, _ => by simp only [GT]
  | .int _, _ => by simp only [GT]
theorem gts_ext {S S' : Sto} (h : Ext S S') : ∀ {ts : List T} {i : Nat}, GTs S i ts → GTs S' i ts
  | [], _, _ => by simp only [GTs]
  | t :: ts, i, g => by
    simp only [GTs] at g ⊢
    exact ⟨g.1, gt_ext h g.2.1, gts_ext h g.2.2⟩
end
theorem rows_sum (l m : List T) : ((l ++ m).map rowsN).sum = (l.map rowsN).sum + (m.map rowsN).sum := by
  rw [List.map_append, List.sum_append]
theorem ok_law_is_graph : ∀ ts S R, sp_law_is_graph ts S R → w_law_is_graph { nx := fun _ S' => ∃ S0, Sub S0 S' ∧ R .non S0, rt := fun t S' => ∃ S0, Sub S0 S' ∧ R t S0 } (startT n_law_is_graph ts) S := by
  rintro ts S R ⟨t, rfl, g, q⟩
  rw [show startT n_law_is_graph [t] = [some t, none, none, none, none, none, none] from rfl]
  unfold w_law_is_graph
  have hsl := sizeLine_eq
  have h0 : (0 : Nat) ≤ sizeLine := Nat.zero_le _
  have h2 : 0 + 1 + 1 ≤ sizeLine := by omega
  have i1 := (gt_isa g).2.2.2
  have i2 := gt_ty g
  have done : ∀ (b : Bool) (S' : Sto), graphT t = b → Ext S S' → ∃ S0, Sub S0 S' ∧ R (.bl b) S0 := fun b S' hb he => ⟨S, he, by rw [← hb]; exact q⟩
  clear q
  cases t with
  | tup ts =>
    match ts, g, i1, i2, done with
    | [], g, i1, i2, done => simp only [↓u_sRet, ↓u_sRetN, ↓u_sNext, ↓u_sBrk, ↓u_sCont, ↓u_sSeq, ↓u_sDrop, ↓u_sIf, ↓u_wNil, ↓u_wCons, ↓u_wTup, ↓u_wLst, ↓u_wTst, ↓u_wTru, ↓u_wAnd, ↓u_wOr, ↓u_wNot, ↓u_wAndV, ↓u_wOrV, ↓u_wNotV, ↓u_wIfE, ↓u_wC, ↓u_wOp, ↓u_wUn, ↓u_wCall, ↓u_wChain, ↓u_wIsi, ↓u_wPart, ↓u_wNoPart, ↓u_wSl, ↓u_slT, ↓u_slL, ↓u_wMeth, ↓u_wKGet, ↓u_wInK, ↓u_sAsg, ↓u_exbl, ↓u_exint, ↓u_exstr, ↓u_exref, ↓u_exsome, ↓u_trubl, ↓u_truint, ↓u_trunon, ↓u_trulst, ↓u_trutup, ↓oEq_ss, ↓oEq_ii, ↓oEq_bb, ↓oEq_ni, ↓oNe_ss, ↓oNe_ii, ↓oNe_bb, ↓oEq_l0, ↓oNe_l0, ↓oEq_t0, ↓oNe_t0, ↓oLt_ii, ↓oLe_ii, ↓oGt_ii, ↓oGe_ii, ↓oSub_ii, ↓oAdd_ii, ↓u_lenT, ↓u_lenL, ↓u_isnon, ↓u_ixtup0, ↓u_ixlst0, ↓u_ixtup1, ↓u_ixlst1, ↓u_ixtup2, ↓u_ixlst2, ↓u_ixtup3, ↓u_ixlst3, ↓u_ixtup4, ↓u_ixlst4, ↓u_ixtup5, ↓u_ixlst5, ↓u_v0, ↓u_s0, ↓u_v1, ↓u_s1, ↓u_v2, ↓u_s2, ↓u_v3, ↓u_s3, ↓u_v4, ↓u_s4, ↓u_v5, ↓u_s5, ↓u_v6, ↓u_s6, ↓u_v7, ↓u_s7, ↓u_v8, ↓u_s8, ↓u_v9, ↓u_s9, ↓u_v10, ↓u_s10, ↓u_v11, ↓u_s11, ↓u_v12, ↓u_s12, ↓u_v13, ↓u_s13, ↓u_v14, ↓u_s14, ↓u_v15, ↓u_s15, ↓u_v16, ↓u_s16, ↓u_v17, ↓u_s17, ↓u_v18, ↓u_s18, ↓u_v19, ↓u_s19, if_true, if_false, Bool.false_eq_true, Bool.not_true, Bool.not_false, Bool.true_and, Bool.false_and, Bool.and_true, Bool.and_false, Bool.or_true, Bool.or_false, Bool.true_or, Bool.false_or, true_and, and_true, Option.isSome_some, List.length_cons, List.length_nil, ofS_beq, String.reduceBEq, i1, i2]; exact done _ _ rfl Ext.refl
    | [x], g, i1, i2, done => simp only [↓u_sRet, ↓u_sRetN, ↓u_sNext, ↓u_sBrk, ↓u_sCont, ↓u_sSeq, ↓u_sDrop, ↓u_sIf, ↓u_wNil, ↓u_wCons, ↓u_wTup, ↓u_wLst, ↓u_wTst, ↓u_wTru, ↓u_wAnd, ↓u_wOr, ↓u_wNot, ↓u_wAndV, ↓u_wOrV, ↓u_wNotV, ↓u_wIfE, ↓u_wC, ↓u_wOp, ↓u_wUn, ↓u_wCall, ↓u_wChain, ↓u_wIsi, ↓u_wPart, ↓u_wNoPart, ↓u_wSl, ↓u_slT, ↓u_slL, ↓u_wMeth, ↓u_wKGet, ↓u_wInK, ↓u_sAsg, ↓u_exbl, ↓u_exint, ↓u_exstr, ↓u_exref, ↓u_exsome, ↓u_trubl, ↓u_truint, ↓u_trunon, ↓u_trulst, ↓u_trutup, ↓oEq_ss, ↓oEq_ii, ↓oEq_bb, ↓oEq_ni, ↓oNe_ss, ↓oNe_ii, ↓oNe_bb, ↓oEq_l0, ↓oNe_l0, ↓oEq_t0, ↓oNe_t0, ↓oLt_ii, ↓oLe_ii, ↓oGt_ii, ↓oGe_ii, ↓oSub_ii, ↓oAdd_ii, ↓u_lenT, ↓u_lenL, ↓u_isnon, ↓u_ixtup0, ↓u_ixlst0, ↓u_ixtup1, ↓u_ixlst1, ↓u_ixtup2, ↓u_ixlst2, ↓u_ixtup3, ↓u_ixlst3, ↓u_ixtup4, ↓u_ixlst4, ↓u_ixtup5, ↓u_ixlst5, ↓u_v0, ↓u_s0, ↓u_v1, ↓u_s1, ↓u_v2, ↓u_s2, ↓u_v3, ↓u_s3, ↓u_v4, ↓u_s4, ↓u_v5, ↓u_s5, ↓u_v6, ↓u_s6, ↓u_v7, ↓u_s7, ↓u_v8, ↓u_s8, ↓u_v9, ↓u_s9, ↓u_v10, ↓u_s10, ↓u_v11, ↓u_s11, ↓u_v12, ↓u_s12, ↓u_v13, ↓u_s13, ↓u_v14, ↓u_s14, ↓u_v15, ↓u_s15, ↓u_v16, ↓u_s16, ↓u_v17, ↓u_s17, ↓u_v18, ↓u_s18, ↓u_v19, ↓u_s19, if_true, if_false, Bool.false_eq_true, Bool.not_true, Bool.not_false, Bool.true_and, Bool.false_and, Bool.and_true, Bool.and_false, Bool.or_true, Bool.or_false, Bool.true_or, Bool.false_or, true_and, and_true, Option.isSome_some, List.length_cons, List.length_nil, ofS_beq, String.reduceBEq, i1, i2]; exact done _ _ rfl Ext.refl
    | x :: y :: z :: l, g, i1, i2, done =>
      simp only [↓u_sRet, ↓u_sRetN, ↓u_sNext, ↓u_sBrk, ↓u_sCont, ↓u_sSeq, ↓u_sDrop, ↓u_sIf, ↓u_wNil, ↓u_wCons, ↓u_wTup, ↓u_wLst, ↓u_wTst, ↓u_wTru, ↓u_wAnd, ↓u_wOr, ↓u_wNot, ↓u_wAndV, ↓u_wOrV, ↓u_wNotV, ↓u_wIfE, ↓u_wC, ↓u_wOp, ↓u_wUn, ↓u_wCall, ↓u_wChain, ↓u_wIsi, ↓u_wPart, ↓u_wNoPart, ↓u_wSl, ↓u_slT, ↓u_slL, ↓u_wMeth, ↓u_wKGet, ↓u_wInK, ↓u_sAsg, ↓u_exbl, ↓u_exint, ↓u_exstr, ↓u_exref, ↓u_exsome, ↓u_trubl, ↓u_truint, ↓u_trunon, ↓u_trulst, ↓u_trutup, ↓oEq_ss, ↓oEq_ii, ↓oEq_bb, ↓oEq_ni, ↓oNe_ss, ↓oNe_ii, ↓oNe_bb, ↓oEq_l0, ↓oNe_l0, ↓oEq_t0, ↓oNe_t0, ↓oLt_ii, ↓oLe_ii, ↓oGt_ii, ↓oGe_ii, ↓oSub_ii, ↓oAdd_ii, ↓u_lenT, ↓u_lenL, ↓u_isnon, ↓u_ixtup0, ↓u_ixlst0, ↓u_ixtup1, ↓u_ixlst1, ↓u_ixtup2, ↓u_ixlst2, ↓u_ixtup3, ↓u_ixlst3, ↓u_ixtup4, ↓u_ixlst4, ↓u_ixtup5, ↓u_ixlst5, ↓u_v0, ↓u_s0, ↓u_v1, ↓u_s1, ↓u_v2, ↓u_s2, ↓u_v3, ↓u_s3, ↓u_v4, ↓u_s4, ↓u_v5, ↓u_s5, ↓u_v6, ↓u_s6, ↓u_v7, ↓u_s7, ↓u_v8, ↓u_s8, ↓u_v9, ↓u_s9, ↓u_v10, ↓u_s10, ↓u_v11, ↓u_s11, ↓u_v12, ↓u_s12, ↓u_v13, ↓u_s13, ↓u_v14, ↓u_s14, ↓u_v15, ↓u_s15, ↓u_v16, ↓u_s16, ↓u_v17, ↓u_s17, ↓u_v18, ↓u_s18, ↓u_v19, ↓u_s19, if_true, if_false, Bool.false_eq_true, Bool.not_true, Bool.not_false, Bool.true_and, Bool.false_and, Bool.and_true, Bool.and_false, Bool.or_true, Bool.or_false, Bool.true_or, Bool.false_or, true_and, and_true, Option.isSome_some, List.length_cons, List.length_nil, ofS_beq, String.reduceBEq, i1, i2]
      rw [if_pos (by simp; omega)]
      exact done _ _ rfl Ext.refl
    | [c, x], g, i1, i2, done =>
      obtain ⟨p1, p2, g1, g2⟩ := gt2 g
      have j1 := (gt_isa g2).2.2.2
      have j2 := gt_ty g2
      cases hc : wordT c 5 with
      | false =>
        simp only [↓u_sRet, ↓u_sRetN, ↓u_sNext, ↓u_sBrk, ↓u_sCont, ↓u_sSeq, ↓u_sDrop, ↓u_sIf, ↓u_wNil, ↓u_wCons, ↓u_wTup, ↓u_wLst, ↓u_wTst, ↓u_wTru, ↓u_wAnd, ↓u_wOr, ↓u_wNot, ↓u_wAndV, ↓u_wOrV, ↓u_wNotV, ↓u_wIfE, ↓u_wC, ↓u_wOp, ↓u_wUn, ↓u_wCall, ↓u_wChain, ↓u_wIsi, ↓u_wPart, ↓u_wNoPart, ↓u_wSl, ↓u_slT, ↓u_slL, ↓u_wMeth, ↓u_wKGet, ↓u_wInK, ↓u_sAsg, ↓u_exbl, ↓u_exint, ↓u_exstr, ↓u_exref, ↓u_exsome, ↓u_trubl, ↓u_truint, ↓u_trunon, ↓u_trulst, ↓u_trutup, ↓oEq_ss, ↓oEq_ii, ↓oEq_bb, ↓oEq_ni, ↓oNe_ss, ↓oNe_ii, ↓oNe_bb, ↓oEq_l0, ↓oNe_l0, ↓oEq_t0, ↓oNe_t0, ↓oLt_ii, ↓oLe_ii, ↓oGt_ii, ↓oGe_ii, ↓oSub_ii, ↓oAdd_ii, ↓u_lenT, ↓u_lenL, ↓u_isnon, ↓u_ixtup0, ↓u_ixlst0, ↓u_ixtup1, ↓u_ixlst1, ↓u_ixtup2, ↓u_ixlst2, ↓u_ixtup3, ↓u_ixlst3, ↓u_ixtup4, ↓u_ixlst4, ↓u_ixtup5, ↓u_ixlst5, ↓u_v0, ↓u_s0, ↓u_v1, ↓u_s1, ↓u_v2, ↓u_s2, ↓u_v3, ↓u_s3, ↓u_v4, ↓u_s4, ↓u_v5, ↓u_s5, ↓u_v6, ↓u_s6, ↓u_v7, ↓u_s7, ↓u_v8, ↓u_s8, ↓u_v9, ↓u_s9, ↓u_v10, ↓u_s10, ↓u_v11, ↓u_s11, ↓u_v12, ↓u_s12, ↓u_v13, ↓u_s13, ↓u_v14, ↓u_s14, ↓u_v15, ↓u_s15, ↓u_v16, ↓u_s16, ↓u_v17, ↓u_s17, ↓u_v18, ↓u_s18, ↓u_v19, ↓u_s19, if_true, if_false, Bool.false_eq_true, Bool.not_true, Bool.not_false, Bool.true_and, Bool.false_and, Bool.and_true, Bool.and_false, Bool.or_true, Bool.or_false, Bool.true_or, Bool.false_or, true_and, and_true, Option.isSome_some, List.length_cons, List.length_nil, ofS_beq, String.reduceBEq, i1, i2, iff_whole, g1, hc]
        refine done _ _ ?_ Ext.refl
        cases x <;> simp [graphT, hc]
      | true =>
        cases x with
        | tup bs =>
          simp only [↓u_sRet, ↓u_sRetN, ↓u_sNext, ↓u_sBrk, ↓u_sCont, ↓u_sSeq, ↓u_sDrop, ↓u_sIf, ↓u_wNil, ↓u_wCons, ↓u_wTup, ↓u_wLst, ↓u_wTst, ↓u_wTru, ↓u_wAnd, ↓u_wOr, ↓u_wNot, ↓u_wAndV, ↓u_wOrV, ↓u_wNotV, ↓u_wIfE, ↓u_wC, ↓u_wOp, ↓u_wUn, ↓u_wCall, ↓u_wChain, ↓u_wIsi, ↓u_wPart, ↓u_wNoPart, ↓u_wSl, ↓u_slT, ↓u_slL, ↓u_wMeth, ↓u_wKGet, ↓u_wInK, ↓u_sAsg, ↓u_exbl, ↓u_exint, ↓u_exstr, ↓u_exref, ↓u_exsome, ↓u_trubl, ↓u_truint, ↓u_trunon, ↓u_trulst, ↓u_trutup, ↓oEq_ss, ↓oEq_ii, ↓oEq_bb, ↓oEq_ni, ↓oNe_ss, ↓oNe_ii, ↓oNe_bb, ↓oEq_l0, ↓oNe_l0, ↓oEq_t0, ↓oNe_t0, ↓oLt_ii, ↓oLe_ii, ↓oGt_ii, ↓oGe_ii, ↓oSub_ii, ↓oAdd_ii, ↓u_lenT, ↓u_lenL, ↓u_isnon, ↓u_ixtup0, ↓u_ixlst0, ↓u_ixtup1, ↓u_ixlst1, ↓u_ixtup2, ↓u_ixlst2, ↓u_ixtup3, ↓u_ixlst3, ↓u_ixtup4, ↓u_ixlst4, ↓u_ixtup5, ↓u_ixlst5, ↓u_v0, ↓u_s0, ↓u_v1, ↓u_s1, ↓u_v2, ↓u_s2, ↓u_v3, ↓u_s3, ↓u_v4, ↓u_s4, ↓u_v5, ↓u_s5, ↓u_v6, ↓u_s6, ↓u_v7, ↓u_s7, ↓u_v8, ↓u_s8, ↓u_v9, ↓u_s9, ↓u_v10, ↓u_s10, ↓u_v11, ↓u_s11, ↓u_v12, ↓u_s12, ↓u_v13, ↓u_s13, ↓u_v14, ↓u_s14, ↓u_v15, ↓u_s15, ↓u_v16, ↓u_s16, ↓u_v17, ↓u_s17, ↓u_v18, ↓u_s18, ↓u_v19, ↓u_s19, if_true, if_false, Bool.false_eq_true, Bool.not_true, Bool.not_false, Bool.true_and, Bool.false_and, Bool.and_true, Bool.and_false, Bool.or_true, Bool.or_false, Bool.true_or, Bool.false_or, true_and, and_true, Option.isSome_some, List.length_cons, List.length_nil, ofS_beq, String.reduceBEq, i1, i2, iff_whole, g1, hc, h2]
          refine ⟨_, rfl, ?_⟩
          rw [show ([some (T.tup [c, T.tup bs]), none, none, none, none, none, none].set 1 (some (T.tup bs))).set 2 (some (.int 0)) = [some (T.tup [c, T.tup bs]), some (T.tup bs), some (.int 0), none, none, none, none] from rfl]
          cases bs with
          | nil =>
            simp only [↓u_sRet, ↓u_sRetN, ↓u_sNext, ↓u_sBrk, ↓u_sCont, ↓u_sSeq, ↓u_sDrop, ↓u_sIf, ↓u_wNil, ↓u_wCons, ↓u_wTup, ↓u_wLst, ↓u_wTst, ↓u_wTru, ↓u_wAnd, ↓u_wOr, ↓u_wNot, ↓u_wAndV, ↓u_wOrV, ↓u_wNotV, ↓u_wIfE, ↓u_wC, ↓u_wOp, ↓u_wUn, ↓u_wCall, ↓u_wChain, ↓u_wIsi, ↓u_wPart, ↓u_wNoPart, ↓u_wSl, ↓u_slT, ↓u_slL, ↓u_wMeth, ↓u_wKGet, ↓u_wInK, ↓u_sAsg, ↓u_exbl, ↓u_exint, ↓u_exstr, ↓u_exref, ↓u_exsome, ↓u_trubl, ↓u_truint, ↓u_trunon, ↓u_trulst, ↓u_trutup, ↓oEq_ss, ↓oEq_ii, ↓oEq_bb, ↓oEq_ni, ↓oNe_ss, ↓oNe_ii, ↓oNe_bb, ↓oEq_l0, ↓oNe_l0, ↓oEq_t0, ↓oNe_t0, ↓oLt_ii, ↓oLe_ii, ↓oGt_ii, ↓oGe_ii, ↓oSub_ii, ↓oAdd_ii, ↓u_lenT, ↓u_lenL, ↓u_isnon, ↓u_ixtup0, ↓u_ixlst0, ↓u_ixtup1, ↓u_ixlst1, ↓u_ixtup2, ↓u_ixlst2, ↓u_ixtup3, ↓u_ixlst3, ↓u_ixtup4, ↓u_ixlst4, ↓u_ixtup5, ↓u_ixlst5, ↓u_v0, ↓u_s0, ↓u_v1, ↓u_s1, ↓u_v2, ↓u_s2, ↓u_v3, ↓u_s3, ↓u_v4, ↓u_s4, ↓u_v5, ↓u_s5, ↓u_v6, ↓u_s6, ↓u_v7, ↓u_s7, ↓u_v8, ↓u_s8, ↓u_v9, ↓u_s9, ↓u_v10, ↓u_s10, ↓u_v11, ↓u_s11, ↓u_v12, ↓u_s12, ↓u_v13, ↓u_s13, ↓u_v14, ↓u_s14, ↓u_v15, ↓u_s15, ↓u_v16, ↓u_s16, ↓u_v17, ↓u_s17, ↓u_v18, ↓u_s18, ↓u_v19, ↓u_s19, if_true, if_false, Bool.false_eq_true, Bool.not_true, Bool.not_false, Bool.true_and, Bool.false_and, Bool.and_true, Bool.and_false, Bool.or_true, Bool.or_false, Bool.true_or, Bool.false_or, true_and, and_true, Option.isSome_some, List.length_cons, List.length_nil, ofS_beq, String.reduceBEq, j1, j2, h0]
            exact done _ _ (by simp [graphT]) Ext.refl
          | cons b0 bs0 =>
            generalize hbs : b0 :: bs0 = bs at *
            have hne : bs.isEmpty = false := by rw [← hbs]; rfl
            simp only [↓u_sRet, ↓u_sRetN, ↓u_sNext, ↓u_sBrk, ↓u_sCont, ↓u_sSeq, ↓u_sDrop, ↓u_sIf, ↓u_wNil, ↓u_wCons, ↓u_wTup, ↓u_wLst, ↓u_wTst, ↓u_wTru, ↓u_wAnd, ↓u_wOr, ↓u_wNot, ↓u_wAndV, ↓u_wOrV, ↓u_wNotV, ↓u_wIfE, ↓u_wC, ↓u_wOp, ↓u_wUn, ↓u_wCall, ↓u_wChain, ↓u_wIsi, ↓u_wPart, ↓u_wNoPart, ↓u_wSl, ↓u_slT, ↓u_slL, ↓u_wMeth, ↓u_wKGet, ↓u_wInK, ↓u_sAsg, ↓u_exbl, ↓u_exint, ↓u_exstr, ↓u_exref, ↓u_exsome, ↓u_trubl, ↓u_truint, ↓u_trunon, ↓u_trulst, ↓u_trutup, ↓oEq_ss, ↓oEq_ii, ↓oEq_bb, ↓oEq_ni, ↓oNe_ss, ↓oNe_ii, ↓oNe_bb, ↓oEq_l0, ↓oNe_l0, ↓oEq_t0, ↓oNe_t0, ↓oLt_ii, ↓oLe_ii, ↓oGt_ii, ↓oGe_ii, ↓oSub_ii, ↓oAdd_ii, ↓u_lenT, ↓u_lenL, ↓u_isnon, ↓u_ixtup0, ↓u_ixlst0, ↓u_ixtup1, ↓u_ixlst1, ↓u_ixtup2, ↓u_ixlst2, ↓u_ixtup3, ↓u_ixlst3, ↓u_ixtup4, ↓u_ixlst4, ↓u_ixtup5, ↓u_ixlst5, ↓u_v0, ↓u_s0, ↓u_v1, ↓u_s1, ↓u_v2, ↓u_s2, ↓u_v3, ↓u_s3, ↓u_v4, ↓u_s4, ↓u_v5, ↓u_s5, ↓u_v6, ↓u_s6, ↓u_v7, ↓u_s7, ↓u_v8, ↓u_s8, ↓u_v9, ↓u_s9, ↓u_v10, ↓u_s10, ↓u_v11, ↓u_s11, ↓u_v12, ↓u_s12, ↓u_v13, ↓u_s13, ↓u_v14, ↓u_s14, ↓u_v15, ↓u_s15, ↓u_v16, ↓u_s16, ↓u_v17, ↓u_s17, ↓u_v18, ↓u_s18, ↓u_v19, ↓u_s19, if_true, if_false, Bool.false_eq_true, Bool.not_true, Bool.not_false, Bool.true_and, Bool.false_and, Bool.and_true, Bool.and_false, Bool.or_true, Bool.or_false, Bool.true_or, Bool.false_or, true_and, and_true, Option.isSome_some, List.length_cons, List.length_nil, ofS_beq, String.reduceBEq, j1, j2, h0, hne, ↓u_disp, ↓u_p0, ↓u_p1]
            refine ⟨fD endsL, rfl, by unfold fD; rw [List.length_map]; decide, fun a ha => ?_⟩
            rw [merge_nodup (by simp [endsL, ofS_eq])]
            refine ⟨rfl, fun d S' he hd hS' => ⟨_, rfl, ?_⟩⟩
            have hext : Ext S S' := Ext.trans (ext_new ha) he
            have hSa : S' a = some (.dK (fD endsL)) := he _ _ supd_same
            have iff_built : ∀ (e : Addr) (fs : List (Str × Str)) (t : T) (n : Int) (R' : Post), S' e = some (.dK (fD fs)) → FsOk fs → GT S' t → R' (.bl (builtT fs t n)) S' → sp_law_is_built [.ref e, t, .int n] S' R' := fun e fs t n R' h1 h2 h3 h4 => ⟨e, t, n, fs, rfl, h1, h2, h3, h4⟩
            refine ⟨_, rfl, bs, rfl, ?_⟩
            refine loop_rest (fun rest ρ S1 => S1 = S' ∧ ∃ (m : Int) (x5 x6 : Option T) (pre : List T), ρ = [some (.tup [c, .tup bs]), some (.tup bs), some (.int m), some (.ref a), some (.ref d), x5, x6] ∧ bs = pre ++ rest ∧ (pre.all fun b => blockT b ((bs.length : Nat) : Int)) = true ∧ m = (pre.map rowsN).sum) ⟨rfl, 0, none, none, [], rfl, rfl, rfl, rfl⟩ ?_ ?_
            · rintro b rest ρ S1 ⟨rfl, m, x5, x6, pre, rfl, hpre, hall, hm⟩
              refine ⟨_, rfl, fun nx hnx => ?_⟩
              have hb : b ∈ bs := by rw [hpre]; simp
              have gb : GT S1 b := gt_ext hext (gt_mem g2 hb)
              have bad : blockT b ((bs.length : Nat) : Int) = false → ∃ S0, Sub S0 S1 ∧ R (.bl false) S0 := fun h => by
                refine done _ _ ?_ hext
                have : (bs.all fun b => blockT b ((bs.length : Nat) : Int)) = false := by
                  rw [List.all_eq_false]
                  exact ⟨b, hb, by simp [h]⟩
                simp [graphT, this]
              have good : blockT b ((bs.length : Nat) : Int) = true → ∀ y, nx [some (.tup [c, .tup bs]), some (.tup bs), some (.int (m + rowsN b)), some (.ref a), some (.ref d), some b, y] S1 := fun h y =>
                hnx _ _ ⟨rfl, _, _, _, pre ++ [b], rfl, by rw [hpre, List.append_assoc]; rfl, by rw [List.all_append, hall]; simp [h], by rw [rows_sum, hm]; simp⟩
              clear done hnx
              have k1 := (gt_isa gb).2.2.2
              have k2 := gt_ty gb
              rw [show List.set [some (T.tup [c, T.tup bs]), some (T.tup bs), some (T.int m), some (T.ref a), some (T.ref d), x5, x6] 5 (some b) = [some (T.tup [c, T.tup bs]), some (T.tup bs), some (T.int m), some (T.ref a), some (T.ref d), some b, x6] from rfl]
              cases b with
              | tup us =>
                match us, gb, k1, k2, bad, good with
                | [], gb, k1, k2, bad, good => simp only [↓u_sRet, ↓u_sRetN, ↓u_sNext, ↓u_sBrk, ↓u_sCont, ↓u_sSeq, ↓u_sDrop, ↓u_sIf, ↓u_wNil, ↓u_wCons, ↓u_wTup, ↓u_wLst, ↓u_wTst, ↓u_wTru, ↓u_wAnd, ↓u_wOr, ↓u_wNot, ↓u_wAndV, ↓u_wOrV, ↓u_wNotV, ↓u_wIfE, ↓u_wC, ↓u_wOp, ↓u_wUn, ↓u_wCall, ↓u_wChain, ↓u_wIsi, ↓u_wPart, ↓u_wNoPart, ↓u_wSl, ↓u_slT, ↓u_slL, ↓u_wMeth, ↓u_wKGet, ↓u_wInK, ↓u_sAsg, ↓u_exbl, ↓u_exint, ↓u_exstr, ↓u_exref, ↓u_exsome, ↓u_trubl, ↓u_truint, ↓u_trunon, ↓u_trulst, ↓u_trutup, ↓oEq_ss, ↓oEq_ii, ↓oEq_bb, ↓oEq_ni, ↓oNe_ss, ↓oNe_ii, ↓oNe_bb, ↓oEq_l0, ↓oNe_l0, ↓oEq_t0, ↓oNe_t0, ↓oLt_ii, ↓oLe_ii, ↓oGt_ii, ↓oGe_ii, ↓oSub_ii, ↓oAdd_ii, ↓u_lenT, ↓u_lenL, ↓u_isnon, ↓u_ixtup0, ↓u_ixlst0, ↓u_ixtup1, ↓u_ixlst1, ↓u_ixtup2, ↓u_ixlst2, ↓u_ixtup3, ↓u_ixlst3, ↓u_ixtup4, ↓u_ixlst4, ↓u_ixtup5, ↓u_ixlst5, ↓u_v0, ↓u_s0, ↓u_v1, ↓u_s1, ↓u_v2, ↓u_s2, ↓u_v3, ↓u_s3, ↓u_v4, ↓u_s4, ↓u_v5, ↓u_s5, ↓u_v6, ↓u_s6, ↓u_v7, ↓u_s7, ↓u_v8, ↓u_s8, ↓u_v9, ↓u_s9, ↓u_v10, ↓u_s10, ↓u_v11, ↓u_s11, ↓u_v12, ↓u_s12, ↓u_v13, ↓u_s13, ↓u_v14, ↓u_s14, ↓u_v15, ↓u_s15, ↓u_v16, ↓u_s16, ↓u_v17, ↓u_s17, ↓u_v18, ↓u_s18, ↓u_v19, ↓u_s19, if_true, if_false, Bool.false_eq_true, Bool.not_true, Bool.not_false, Bool.true_and, Bool.false_and, Bool.and_true, Bool.and_false, Bool.or_true, Bool.or_false, Bool.true_or, Bool.false_or, true_and, and_true, Option.isSome_some, List.length_cons, List.length_nil, ofS_beq, String.reduceBEq, k1, k2]; exact bad rfl
                | [x], gb, k1, k2, bad, good => simp only [↓u_sRet, ↓u_sRetN, ↓u_sNext, ↓u_sBrk, ↓u_sCont, ↓u_sSeq, ↓u_sDrop, ↓u_sIf, ↓u_wNil, ↓u_wCons, ↓u_wTup, ↓u_wLst, ↓u_wTst, ↓u_wTru, ↓u_wAnd, ↓u_wOr, ↓u_wNot, ↓u_wAndV, ↓u_wOrV, ↓u_wNotV, ↓u_wIfE, ↓u_wC, ↓u_wOp, ↓u_wUn, ↓u_wCall, ↓u_wChain, ↓u_wIsi, ↓u_wPart, ↓u_wNoPart, ↓u_wSl, ↓u_slT, ↓u_slL, ↓u_wMeth, ↓u_wKGet, ↓u_wInK, ↓u_sAsg, ↓u_exbl, ↓u_exint, ↓u_exstr, ↓u_exref, ↓u_exsome, ↓u_trubl, ↓u_truint, ↓u_trunon, ↓u_trulst, ↓u_trutup, ↓oEq_ss, ↓oEq_ii, ↓oEq_bb, ↓oEq_ni, ↓oNe_ss, ↓oNe_ii, ↓oNe_bb, ↓oEq_l0, ↓oNe_l0, ↓oEq_t0, ↓oNe_t0, ↓oLt_ii, ↓oLe_ii, ↓oGt_ii, ↓oGe_ii, ↓oSub_ii, ↓oAdd_ii, ↓u_lenT, ↓u_lenL, ↓u_isnon, ↓u_ixtup0, ↓u_ixlst0, ↓u_ixtup1, ↓u_ixlst1, ↓u_ixtup2, ↓u_ixlst2, ↓u_ixtup3, ↓u_ixlst3, ↓u_ixtup4, ↓u_ixlst4, ↓u_ixtup5, ↓u_ixlst5, ↓u_v0, ↓u_s0, ↓u_v1, ↓u_s1, ↓u_v2, ↓u_s2, ↓u_v3, ↓u_s3, ↓u_v4, ↓u_s4, ↓u_v5, ↓u_s5, ↓u_v6, ↓u_s6, ↓u_v7, ↓u_s7, ↓u_v8, ↓u_s8, ↓u_v9, ↓u_s9, ↓u_v10, ↓u_s10, ↓u_v11, ↓u_s11, ↓u_v12, ↓u_s12, ↓u_v13, ↓u_s13, ↓u_v14, ↓u_s14, ↓u_v15, ↓u_s15, ↓u_v16, ↓u_s16, ↓u_v17, ↓u_s17, ↓u_v18, ↓u_s18, ↓u_v19, ↓u_s19, if_true, if_false, Bool.false_eq_true, Bool.not_true, Bool.not_false, Bool.true_and, Bool.false_and, Bool.and_true, Bool.and_false, Bool.or_true, Bool.or_false, Bool.true_or, Bool.false_or, true_and, and_true, Option.isSome_some, List.length_cons, List.length_nil, ofS_beq, String.reduceBEq, k1, k2]; exact bad rfl
                | x :: y :: z :: l, gb, k1, k2, bad, good =>
                  simp only [↓u_sRet, ↓u_sRetN, ↓u_sNext, ↓u_sBrk, ↓u_sCont, ↓u_sSeq, ↓u_sDrop, ↓u_sIf, ↓u_wNil, ↓u_wCons, ↓u_wTup, ↓u_wLst, ↓u_wTst, ↓u_wTru, ↓u_wAnd, ↓u_wOr, ↓u_wNot, ↓u_wAndV, ↓u_wOrV, ↓u_wNotV, ↓u_wIfE, ↓u_wC, ↓u_wOp, ↓u_wUn, ↓u_wCall, ↓u_wChain, ↓u_wIsi, ↓u_wPart, ↓u_wNoPart, ↓u_wSl, ↓u_slT, ↓u_slL, ↓u_wMeth, ↓u_wKGet, ↓u_wInK, ↓u_sAsg, ↓u_exbl, ↓u_exint, ↓u_exstr, ↓u_exref, ↓u_exsome, ↓u_trubl, ↓u_truint, ↓u_trunon, ↓u_trulst, ↓u_trutup, ↓oEq_ss, ↓oEq_ii, ↓oEq_bb, ↓oEq_ni, ↓oNe_ss, ↓oNe_ii, ↓oNe_bb, ↓oEq_l0, ↓oNe_l0, ↓oEq_t0, ↓oNe_t0, ↓oLt_ii, ↓oLe_ii, ↓oGt_ii, ↓oGe_ii, ↓oSub_ii, ↓oAdd_ii, ↓u_lenT, ↓u_lenL, ↓u_isnon, ↓u_ixtup0, ↓u_ixlst0, ↓u_ixtup1, ↓u_ixlst1, ↓u_ixtup2, ↓u_ixlst2, ↓u_ixtup3, ↓u_ixlst3, ↓u_ixtup4, ↓u_ixlst4, ↓u_ixtup5, ↓u_ixlst5, ↓u_v0, ↓u_s0, ↓u_v1, ↓u_s1, ↓u_v2, ↓u_s2, ↓u_v3, ↓u_s3, ↓u_v4, ↓u_s4, ↓u_v5, ↓u_s5, ↓u_v6, ↓u_s6, ↓u_v7, ↓u_s7, ↓u_v8, ↓u_s8, ↓u_v9, ↓u_s9, ↓u_v10, ↓u_s10, ↓u_v11, ↓u_s11, ↓u_v12, ↓u_s12, ↓u_v13, ↓u_s13, ↓u_v14, ↓u_s14, ↓u_v15, ↓u_s15, ↓u_v16, ↓u_s16, ↓u_v17, ↓u_s17, ↓u_v18, ↓u_s18, ↓u_v19, ↓u_s19, if_true, if_false, Bool.false_eq_true, Bool.not_true, Bool.not_false, Bool.true_and, Bool.false_and, Bool.and_true, Bool.and_false, Bool.or_true, Bool.or_false, Bool.true_or, Bool.false_or, true_and, and_true, Option.isSome_some, List.length_cons, List.length_nil, ofS_beq, String.reduceBEq, k1, k2]
                  rw [if_pos (by simp; omega)]
                  exact bad rfl
                | [x, e], gb, k1, k2, bad, good =>
                  obtain ⟨_, _, gx, ge⟩ := gt2 gb
                  have l1 := (gt_isa gx).2.2.2
                  have l2 := gt_ty gx
                  cases x with
                  | tup rows =>
                    simp only [↓u_sRet, ↓u_sRetN, ↓u_sNext, ↓u_sBrk, ↓u_sCont, ↓u_sSeq, ↓u_sDrop, ↓u_sIf, ↓u_wNil, ↓u_wCons, ↓u_wTup, ↓u_wLst, ↓u_wTst, ↓u_wTru, ↓u_wAnd, ↓u_wOr, ↓u_wNot, ↓u_wAndV, ↓u_wOrV, ↓u_wNotV, ↓u_wIfE, ↓u_wC, ↓u_wOp, ↓u_wUn, ↓u_wCall, ↓u_wChain, ↓u_wIsi, ↓u_wPart, ↓u_wNoPart, ↓u_wSl, ↓u_slT, ↓u_slL, ↓u_wMeth, ↓u_wKGet, ↓u_wInK, ↓u_sAsg, ↓u_exbl, ↓u_exint, ↓u_exstr, ↓u_exref, ↓u_exsome, ↓u_trubl, ↓u_truint, ↓u_trunon, ↓u_trulst, ↓u_trutup, ↓oEq_ss, ↓oEq_ii, ↓oEq_bb, ↓oEq_ni, ↓oNe_ss, ↓oNe_ii, ↓oNe_bb, ↓oEq_l0, ↓oNe_l0, ↓oEq_t0, ↓oNe_t0, ↓oLt_ii, ↓oLe_ii, ↓oGt_ii, ↓oGe_ii, ↓oSub_ii, ↓oAdd_ii, ↓u_lenT, ↓u_lenL, ↓u_isnon, ↓u_ixtup0, ↓u_ixlst0, ↓u_ixtup1, ↓u_ixlst1, ↓u_ixtup2, ↓u_ixlst2, ↓u_ixtup3, ↓u_ixlst3, ↓u_ixtup4, ↓u_ixlst4, ↓u_ixtup5, ↓u_ixlst5, ↓u_v0, ↓u_s0, ↓u_v1, ↓u_s1, ↓u_v2, ↓u_s2, ↓u_v3, ↓u_s3, ↓u_v4, ↓u_s4, ↓u_v5, ↓u_s5, ↓u_v6, ↓u_s6, ↓u_v7, ↓u_s7, ↓u_v8, ↓u_s8, ↓u_v9, ↓u_s9, ↓u_v10, ↓u_s10, ↓u_v11, ↓u_s11, ↓u_v12, ↓u_s12, ↓u_v13, ↓u_s13, ↓u_v14, ↓u_s14, ↓u_v15, ↓u_s15, ↓u_v16, ↓u_s16, ↓u_v17, ↓u_s17, ↓u_v18, ↓u_s18, ↓u_v19, ↓u_s19, if_true, if_false, Bool.false_eq_true, Bool.not_true, Bool.not_false, Bool.true_and, Bool.false_and, Bool.and_true, Bool.and_false, Bool.or_true, Bool.or_false, Bool.true_or, Bool.false_or, true_and, and_true, Option.isSome_some, List.length_cons, List.length_nil, ofS_beq, String.reduceBEq, k1, k2, l1, l2]
                    rw [if_neg (by simp)]
                    refine iff_built _ _ _ _ _ hSa fs_ends ge ?_
                    simp only [↓u_sRet, ↓u_sRetN, ↓u_sNext, ↓u_sBrk, ↓u_sCont, ↓u_sSeq, ↓u_sDrop, ↓u_sIf, ↓u_wNil, ↓u_wCons, ↓u_wTup, ↓u_wLst, ↓u_wTst, ↓u_wTru, ↓u_wAnd, ↓u_wOr, ↓u_wNot, ↓u_wAndV, ↓u_wOrV, ↓u_wNotV, ↓u_wIfE, ↓u_wC, ↓u_wOp, ↓u_wUn, ↓u_wCall, ↓u_wChain, ↓u_wIsi, ↓u_wPart, ↓u_wNoPart, ↓u_wSl, ↓u_slT, ↓u_slL, ↓u_wMeth, ↓u_wKGet, ↓u_wInK, ↓u_sAsg, ↓u_exbl, ↓u_exint, ↓u_exstr, ↓u_exref, ↓u_exsome, ↓u_trubl, ↓u_truint, ↓u_trunon, ↓u_trulst, ↓u_trutup, ↓oEq_ss, ↓oEq_ii, ↓oEq_bb, ↓oEq_ni, ↓oNe_ss, ↓oNe_ii, ↓oNe_bb, ↓oEq_l0, ↓oNe_l0, ↓oEq_t0, ↓oNe_t0, ↓oLt_ii, ↓oLe_ii, ↓oGt_ii, ↓oGe_ii, ↓oSub_ii, ↓oAdd_ii, ↓u_lenT, ↓u_lenL, ↓u_isnon, ↓u_ixtup0, ↓u_ixlst0, ↓u_ixtup1, ↓u_ixlst1, ↓u_ixtup2, ↓u_ixlst2, ↓u_ixtup3, ↓u_ixlst3, ↓u_ixtup4, ↓u_ixlst4, ↓u_ixtup5, ↓u_ixlst5, ↓u_v0, ↓u_s0, ↓u_v1, ↓u_s1, ↓u_v2, ↓u_s2, ↓u_v3, ↓u_s3, ↓u_v4, ↓u_s4, ↓u_v5, ↓u_s5, ↓u_v6, ↓u_s6, ↓u_v7, ↓u_s7, ↓u_v8, ↓u_s8, ↓u_v9, ↓u_s9, ↓u_v10, ↓u_s10, ↓u_v11, ↓u_s11, ↓u_v12, ↓u_s12, ↓u_v13, ↓u_s13, ↓u_v14, ↓u_s14, ↓u_v15, ↓u_s15, ↓u_v16, ↓u_s16, ↓u_v17, ↓u_s17, ↓u_v18, ↓u_s18, ↓u_v19, ↓u_s19, if_true, if_false, Bool.false_eq_true, Bool.not_true, Bool.not_false, Bool.true_and, Bool.false_and, Bool.and_true, Bool.and_false, Bool.or_true, Bool.or_false, Bool.true_or, Bool.false_or, true_and, and_true, Option.isSome_some, List.length_cons, List.length_nil, ofS_beq, String.reduceBEq]
                    cases hend : builtT endsL e ((bs.length : Nat) : Int) with
                    | false =>
                      simp only [↓u_sRet, ↓u_sRetN, ↓u_sNext, ↓u_sBrk, ↓u_sCont, ↓u_sSeq, ↓u_sDrop, ↓u_sIf, ↓u_wNil, ↓u_wCons, ↓u_wTup, ↓u_wLst, ↓u_wTst, ↓u_wTru, ↓u_wAnd, ↓u_wOr, ↓u_wNot, ↓u_wAndV, ↓u_wOrV, ↓u_wNotV, ↓u_wIfE, ↓u_wC, ↓u_wOp, ↓u_wUn, ↓u_wCall, ↓u_wChain, ↓u_wIsi, ↓u_wPart, ↓u_wNoPart, ↓u_wSl, ↓u_slT, ↓u_slL, ↓u_wMeth, ↓u_wKGet, ↓u_wInK, ↓u_sAsg, ↓u_exbl, ↓u_exint, ↓u_exstr, ↓u_exref, ↓u_exsome, ↓u_trubl, ↓u_truint, ↓u_trunon, ↓u_trulst, ↓u_trutup, ↓oEq_ss, ↓oEq_ii, ↓oEq_bb, ↓oEq_ni, ↓oNe_ss, ↓oNe_ii, ↓oNe_bb, ↓oEq_l0, ↓oNe_l0, ↓oEq_t0, ↓oNe_t0, ↓oLt_ii, ↓oLe_ii, ↓oGt_ii, ↓oGe_ii, ↓oSub_ii, ↓oAdd_ii, ↓u_lenT, ↓u_lenL, ↓u_isnon, ↓u_ixtup0, ↓u_ixlst0, ↓u_ixtup1, ↓u_ixlst1, ↓u_ixtup2, ↓u_ixlst2, ↓u_ixtup3, ↓u_ixlst3, ↓u_ixtup4, ↓u_ixlst4, ↓u_ixtup5, ↓u_ixlst5, ↓u_v0, ↓u_s0, ↓u_v1, ↓u_s1, ↓u_v2, ↓u_s2, ↓u_v3, ↓u_s3, ↓u_v4, ↓u_s4, ↓u_v5, ↓u_s5, ↓u_v6, ↓u_s6, ↓u_v7, ↓u_s7, ↓u_v8, ↓u_s8, ↓u_v9, ↓u_s9, ↓u_v10, ↓u_s10, ↓u_v11, ↓u_s11, ↓u_v12, ↓u_s12, ↓u_v13, ↓u_s13, ↓u_v14, ↓u_s14, ↓u_v15, ↓u_s15, ↓u_v16, ↓u_s16, ↓u_v17, ↓u_s17, ↓u_v18, ↓u_s18, ↓u_v19, ↓u_s19, if_true, if_false, Bool.false_eq_true, Bool.not_true, Bool.not_false, Bool.true_and, Bool.false_and, Bool.and_true, Bool.and_false, Bool.or_true, Bool.or_false, Bool.true_or, Bool.false_or, true_and, and_true, Option.isSome_some, List.length_cons, List.length_nil, ofS_beq, String.reduceBEq]
                      exact bad (by simp [blockT, hend])
                    | true =>
                      simp only [↓u_sRet, ↓u_sRetN, ↓u_sNext, ↓u_sBrk, ↓u_sCont, ↓u_sSeq, ↓u_sDrop, ↓u_sIf, ↓u_wNil, ↓u_wCons, ↓u_wTup, ↓u_wLst, ↓u_wTst, ↓u_wTru, ↓u_wAnd, ↓u_wOr, ↓u_wNot, ↓u_wAndV, ↓u_wOrV, ↓u_wNotV, ↓u_wIfE, ↓u_wC, ↓u_wOp, ↓u_wUn, ↓u_wCall, ↓u_wChain, ↓u_wIsi, ↓u_wPart, ↓u_wNoPart, ↓u_wSl, ↓u_slT, ↓u_slL, ↓u_wMeth, ↓u_wKGet, ↓u_wInK, ↓u_sAsg, ↓u_exbl, ↓u_exint, ↓u_exstr, ↓u_exref, ↓u_exsome, ↓u_trubl, ↓u_truint, ↓u_trunon, ↓u_trulst, ↓u_trutup, ↓oEq_ss, ↓oEq_ii, ↓oEq_bb, ↓oEq_ni, ↓oNe_ss, ↓oNe_ii, ↓oNe_bb, ↓oEq_l0, ↓oNe_l0, ↓oEq_t0, ↓oNe_t0, ↓oLt_ii, ↓oLe_ii, ↓oGt_ii, ↓oGe_ii, ↓oSub_ii, ↓oAdd_ii, ↓u_lenT, ↓u_lenL, ↓u_isnon, ↓u_ixtup0, ↓u_ixlst0, ↓u_ixtup1, ↓u_ixlst1, ↓u_ixtup2, ↓u_ixlst2, ↓u_ixtup3, ↓u_ixlst3, ↓u_ixtup4, ↓u_ixlst4, ↓u_ixtup5, ↓u_ixlst5, ↓u_v0, ↓u_s0, ↓u_v1, ↓u_s1, ↓u_v2, ↓u_s2, ↓u_v3, ↓u_s3, ↓u_v4, ↓u_s4, ↓u_v5, ↓u_s5, ↓u_v6, ↓u_s6, ↓u_v7, ↓u_s7, ↓u_v8, ↓u_s8, ↓u_v9, ↓u_s9, ↓u_v10, ↓u_s10, ↓u_v11, ↓u_s11, ↓u_v12, ↓u_s12, ↓u_v13, ↓u_s13, ↓u_v14, ↓u_s14, ↓u_v15, ↓u_s15, ↓u_v16, ↓u_s16, ↓u_v17, ↓u_s17, ↓u_v18, ↓u_s18, ↓u_v19, ↓u_s19, if_true, if_false, Bool.false_eq_true, Bool.not_true, Bool.not_false, Bool.true_and, Bool.false_and, Bool.and_true, Bool.and_false, Bool.or_true, Bool.or_false, Bool.true_or, Bool.false_or, true_and, and_true, Option.isSome_some, List.length_cons, List.length_nil, ofS_beq, String.reduceBEq]
                      refine wLc_filter (t := .tup rows) (ts := rows) (fun r => !builtT formsL r ((bs.length : Nat) : Int)) (fun _ => .int 1) (fun R' q' => by simp only [↓u_sRet, ↓u_sRetN, ↓u_sNext, ↓u_sBrk, ↓u_sCont, ↓u_sSeq, ↓u_sDrop, ↓u_sIf, ↓u_wNil, ↓u_wCons, ↓u_wTup, ↓u_wLst, ↓u_wTst, ↓u_wTru, ↓u_wAnd, ↓u_wOr, ↓u_wNot, ↓u_wAndV, ↓u_wOrV, ↓u_wNotV, ↓u_wIfE, ↓u_wC, ↓u_wOp, ↓u_wUn, ↓u_wCall, ↓u_wChain, ↓u_wIsi, ↓u_wPart, ↓u_wNoPart, ↓u_wSl, ↓u_slT, ↓u_slL, ↓u_wMeth, ↓u_wKGet, ↓u_wInK, ↓u_sAsg, ↓u_exbl, ↓u_exint, ↓u_exstr, ↓u_exref, ↓u_exsome, ↓u_trubl, ↓u_truint, ↓u_trunon, ↓u_trulst, ↓u_trutup, ↓oEq_ss, ↓oEq_ii, ↓oEq_bb, ↓oEq_ni, ↓oNe_ss, ↓oNe_ii, ↓oNe_bb, ↓oEq_l0, ↓oNe_l0, ↓oEq_t0, ↓oNe_t0, ↓oLt_ii, ↓oLe_ii, ↓oGt_ii, ↓oGe_ii, ↓oSub_ii, ↓oAdd_ii, ↓u_lenT, ↓u_lenL, ↓u_isnon, ↓u_ixtup0, ↓u_ixlst0, ↓u_ixtup1, ↓u_ixlst1, ↓u_ixtup2, ↓u_ixlst2, ↓u_ixtup3, ↓u_ixlst3, ↓u_ixtup4, ↓u_ixlst4, ↓u_ixtup5, ↓u_ixlst5, ↓u_v0, ↓u_s0, ↓u_v1, ↓u_s1, ↓u_v2, ↓u_s2, ↓u_v3, ↓u_s3, ↓u_v4, ↓u_s4, ↓u_v5, ↓u_s5, ↓u_v6, ↓u_s6, ↓u_v7, ↓u_s7, ↓u_v8, ↓u_s8, ↓u_v9, ↓u_s9, ↓u_v10, ↓u_s10, ↓u_v11, ↓u_s11, ↓u_v12, ↓u_s12, ↓u_v13, ↓u_s13, ↓u_v14, ↓u_s14, ↓u_v15, ↓u_s15, ↓u_v16, ↓u_s16, ↓u_v17, ↓u_s17, ↓u_v18, ↓u_s18, ↓u_v19, ↓u_s19, if_true, if_false, Bool.false_eq_true, Bool.not_true, Bool.not_false, Bool.true_and, Bool.false_and, Bool.and_true, Bool.and_false, Bool.or_true, Bool.or_false, Bool.true_or, Bool.false_or, true_and, and_true, Option.isSome_some, List.length_cons, List.length_nil, ofS_beq, String.reduceBEq]; exact q') rfl (by have := gt_len gx; omega) (fun r hr => ⟨_, rfl, fun R' q' => ?_, fun R' q' => q'⟩) ?_
                      · show wNot (wTru (wCall sp_law_is_built _)) [some (T.tup [c, T.tup bs]), some (T.tup bs), some (T.int (m + ((rows.length : Nat) : Int) + 1)), some (T.ref a), some (T.ref d), some (.tup [.tup rows, e]), some r] S1 R'
                        simp only [↓u_sRet, ↓u_sRetN, ↓u_sNext, ↓u_sBrk, ↓u_sCont, ↓u_sSeq, ↓u_sDrop, ↓u_sIf, ↓u_wNil, ↓u_wCons, ↓u_wTup, ↓u_wLst, ↓u_wTst, ↓u_wTru, ↓u_wAnd, ↓u_wOr, ↓u_wNot, ↓u_wAndV, ↓u_wOrV, ↓u_wNotV, ↓u_wIfE, ↓u_wC, ↓u_wOp, ↓u_wUn, ↓u_wCall, ↓u_wChain, ↓u_wIsi, ↓u_wPart, ↓u_wNoPart, ↓u_wSl, ↓u_slT, ↓u_slL, ↓u_wMeth, ↓u_wKGet, ↓u_wInK, ↓u_sAsg, ↓u_exbl, ↓u_exint, ↓u_exstr, ↓u_exref, ↓u_exsome, ↓u_trubl, ↓u_truint, ↓u_trunon, ↓u_trulst, ↓u_trutup, ↓oEq_ss, ↓oEq_ii, ↓oEq_bb, ↓oEq_ni, ↓oNe_ss, ↓oNe_ii, ↓oNe_bb, ↓oEq_l0, ↓oNe_l0, ↓oEq_t0, ↓oNe_t0, ↓oLt_ii, ↓oLe_ii, ↓oGt_ii, ↓oGe_ii, ↓oSub_ii, ↓oAdd_ii, ↓u_lenT, ↓u_lenL, ↓u_isnon, ↓u_ixtup0, ↓u_ixlst0, ↓u_ixtup1, ↓u_ixlst1, ↓u_ixtup2, ↓u_ixlst2, ↓u_ixtup3, ↓u_ixlst3, ↓u_ixtup4, ↓u_ixlst4, ↓u_ixtup5, ↓u_ixlst5, ↓u_v0, ↓u_s0, ↓u_v1, ↓u_s1, ↓u_v2, ↓u_s2, ↓u_v3, ↓u_s3, ↓u_v4, ↓u_s4, ↓u_v5, ↓u_s5, ↓u_v6, ↓u_s6, ↓u_v7, ↓u_s7, ↓u_v8, ↓u_s8, ↓u_v9, ↓u_s9, ↓u_v10, ↓u_s10, ↓u_v11, ↓u_s11, ↓u_v12, ↓u_s12, ↓u_v13, ↓u_s13, ↓u_v14, ↓u_s14, ↓u_v15, ↓u_s15, ↓u_v16, ↓u_s16, ↓u_v17, ↓u_s17, ↓u_v18, ↓u_s18, ↓u_v19, ↓u_s19, if_true, if_false, Bool.false_eq_true, Bool.not_true, Bool.not_false, Bool.true_and, Bool.false_and, Bool.and_true, Bool.and_false, Bool.or_true, Bool.or_false, Bool.true_or, Bool.false_or, true_and, and_true, Option.isSome_some, List.length_cons, List.length_nil, ofS_beq, String.reduceBEq]
                        refine iff_built _ _ _ _ _ hS' fs_forms (gt_mem gx hr) ?_
                        simp only [↓u_sRet, ↓u_sRetN, ↓u_sNext, ↓u_sBrk, ↓u_sCont, ↓u_sSeq, ↓u_sDrop, ↓u_sIf, ↓u_wNil, ↓u_wCons, ↓u_wTup, ↓u_wLst, ↓u_wTst, ↓u_wTru, ↓u_wAnd, ↓u_wOr, ↓u_wNot, ↓u_wAndV, ↓u_wOrV, ↓u_wNotV, ↓u_wIfE, ↓u_wC, ↓u_wOp, ↓u_wUn, ↓u_wCall, ↓u_wChain, ↓u_wIsi, ↓u_wPart, ↓u_wNoPart, ↓u_wSl, ↓u_slT, ↓u_slL, ↓u_wMeth, ↓u_wKGet, ↓u_wInK, ↓u_sAsg, ↓u_exbl, ↓u_exint, ↓u_exstr, ↓u_exref, ↓u_exsome, ↓u_trubl, ↓u_truint, ↓u_trunon, ↓u_trulst, ↓u_trutup, ↓oEq_ss, ↓oEq_ii, ↓oEq_bb, ↓oEq_ni, ↓oNe_ss, ↓oNe_ii, ↓oNe_bb, ↓oEq_l0, ↓oNe_l0, ↓oEq_t0, ↓oNe_t0, ↓oLt_ii, ↓oLe_ii, ↓oGt_ii, ↓oGe_ii, ↓oSub_ii, ↓oAdd_ii, ↓u_lenT, ↓u_lenL, ↓u_isnon, ↓u_ixtup0, ↓u_ixlst0, ↓u_ixtup1, ↓u_ixlst1, ↓u_ixtup2, ↓u_ixlst2, ↓u_ixtup3, ↓u_ixlst3, ↓u_ixtup4, ↓u_ixlst4, ↓u_ixtup5, ↓u_ixlst5, ↓u_v0, ↓u_s0, ↓u_v1, ↓u_s1, ↓u_v2, ↓u_s2, ↓u_v3, ↓u_s3, ↓u_v4, ↓u_s4, ↓u_v5, ↓u_s5, ↓u_v6, ↓u_s6, ↓u_v7, ↓u_s7, ↓u_v8, ↓u_s8, ↓u_v9, ↓u_s9, ↓u_v10, ↓u_s10, ↓u_v11, ↓u_s11, ↓u_v12, ↓u_s12, ↓u_v13, ↓u_s13, ↓u_v14, ↓u_s14, ↓u_v15, ↓u_s15, ↓u_v16, ↓u_s16, ↓u_v17, ↓u_s17, ↓u_v18, ↓u_s18, ↓u_v19, ↓u_s19, if_true, if_false, Bool.false_eq_true, Bool.not_true, Bool.not_false, Bool.true_and, Bool.false_and, Bool.and_true, Bool.and_false, Bool.or_true, Bool.or_false, Bool.true_or, Bool.false_or, true_and, and_true, Option.isSome_some, List.length_cons, List.length_nil, ofS_beq, String.reduceBEq]
                        exact q'
                      · refine ⟨h0, ?_⟩
                        show oNe _ _ _ _
                        rw [oNe_l0, filter_empty]
                        simp only [↓u_sRet, ↓u_sRetN, ↓u_sNext, ↓u_sBrk, ↓u_sCont, ↓u_sSeq, ↓u_sDrop, ↓u_sIf, ↓u_wNil, ↓u_wCons, ↓u_wTup, ↓u_wLst, ↓u_wTst, ↓u_wTru, ↓u_wAnd, ↓u_wOr, ↓u_wNot, ↓u_wAndV, ↓u_wOrV, ↓u_wNotV, ↓u_wIfE, ↓u_wC, ↓u_wOp, ↓u_wUn, ↓u_wCall, ↓u_wChain, ↓u_wIsi, ↓u_wPart, ↓u_wNoPart, ↓u_wSl, ↓u_slT, ↓u_slL, ↓u_wMeth, ↓u_wKGet, ↓u_wInK, ↓u_sAsg, ↓u_exbl, ↓u_exint, ↓u_exstr, ↓u_exref, ↓u_exsome, ↓u_trubl, ↓u_truint, ↓u_trunon, ↓u_trulst, ↓u_trutup, ↓oEq_ss, ↓oEq_ii, ↓oEq_bb, ↓oEq_ni, ↓oNe_ss, ↓oNe_ii, ↓oNe_bb, ↓oEq_l0, ↓oNe_l0, ↓oEq_t0, ↓oNe_t0, ↓oLt_ii, ↓oLe_ii, ↓oGt_ii, ↓oGe_ii, ↓oSub_ii, ↓oAdd_ii, ↓u_lenT, ↓u_lenL, ↓u_isnon, ↓u_ixtup0, ↓u_ixlst0, ↓u_ixtup1, ↓u_ixlst1, ↓u_ixtup2, ↓u_ixlst2, ↓u_ixtup3, ↓u_ixlst3, ↓u_ixtup4, ↓u_ixlst4, ↓u_ixtup5, ↓u_ixlst5, ↓u_v0, ↓u_s0, ↓u_v1, ↓u_s1, ↓u_v2, ↓u_s2, ↓u_v3, ↓u_s3, ↓u_v4, ↓u_s4, ↓u_v5, ↓u_s5, ↓u_v6, ↓u_s6, ↓u_v7, ↓u_s7, ↓u_v8, ↓u_s8, ↓u_v9, ↓u_s9, ↓u_v10, ↓u_s10, ↓u_v11, ↓u_s11, ↓u_v12, ↓u_s12, ↓u_v13, ↓u_s13, ↓u_v14, ↓u_s14, ↓u_v15, ↓u_s15, ↓u_v16, ↓u_s16, ↓u_v17, ↓u_s17, ↓u_v18, ↓u_s18, ↓u_v19, ↓u_s19, if_true, if_false, Bool.false_eq_true, Bool.not_true, Bool.not_false, Bool.true_and, Bool.false_and, Bool.and_true, Bool.and_false, Bool.or_true, Bool.or_false, Bool.true_or, Bool.false_or, true_and, and_true, Option.isSome_some, List.length_cons, List.length_nil, ofS_beq, String.reduceBEq, Bool.not_not]
                        have hr : rowsN (.tup [.tup rows, e]) = ((rows.length : Nat) : Int) + 1 := rfl
                        cases hrows : rows.all fun r => builtT formsL r ((bs.length : Nat) : Int) with
                        | false =>
                          simp only [↓u_sRet, ↓u_sRetN, ↓u_sNext, ↓u_sBrk, ↓u_sCont, ↓u_sSeq, ↓u_sDrop, ↓u_sIf, ↓u_wNil, ↓u_wCons, ↓u_wTup, ↓u_wLst, ↓u_wTst, ↓u_wTru, ↓u_wAnd, ↓u_wOr, ↓u_wNot, ↓u_wAndV, ↓u_wOrV, ↓u_wNotV, ↓u_wIfE, ↓u_wC, ↓u_wOp, ↓u_wUn, ↓u_wCall, ↓u_wChain, ↓u_wIsi, ↓u_wPart, ↓u_wNoPart, ↓u_wSl, ↓u_slT, ↓u_slL, ↓u_wMeth, ↓u_wKGet, ↓u_wInK, ↓u_sAsg, ↓u_exbl, ↓u_exint, ↓u_exstr, ↓u_exref, ↓u_exsome, ↓u_trubl, ↓u_truint, ↓u_trunon, ↓u_trulst, ↓u_trutup, ↓oEq_ss, ↓oEq_ii, ↓oEq_bb, ↓oEq_ni, ↓oNe_ss, ↓oNe_ii, ↓oNe_bb, ↓oEq_l0, ↓oNe_l0, ↓oEq_t0, ↓oNe_t0, ↓oLt_ii, ↓oLe_ii, ↓oGt_ii, ↓oGe_ii, ↓oSub_ii, ↓oAdd_ii, ↓u_lenT, ↓u_lenL, ↓u_isnon, ↓u_ixtup0, ↓u_ixlst0, ↓u_ixtup1, ↓u_ixlst1, ↓u_ixtup2, ↓u_ixlst2, ↓u_ixtup3, ↓u_ixlst3, ↓u_ixtup4, ↓u_ixlst4, ↓u_ixtup5, ↓u_ixlst5, ↓u_v0, ↓u_s0, ↓u_v1, ↓u_s1, ↓u_v2, ↓u_s2, ↓u_v3, ↓u_s3, ↓u_v4, ↓u_s4, ↓u_v5, ↓u_s5, ↓u_v6, ↓u_s6, ↓u_v7, ↓u_s7, ↓u_v8, ↓u_s8, ↓u_v9, ↓u_s9, ↓u_v10, ↓u_s10, ↓u_v11, ↓u_s11, ↓u_v12, ↓u_s12, ↓u_v13, ↓u_s13, ↓u_v14, ↓u_s14, ↓u_v15, ↓u_s15, ↓u_v16, ↓u_s16, ↓u_v17, ↓u_s17, ↓u_v18, ↓u_s18, ↓u_v19, ↓u_s19, if_true, if_false, Bool.false_eq_true, Bool.not_true, Bool.not_false, Bool.true_and, Bool.false_and, Bool.and_true, Bool.and_false, Bool.or_true, Bool.or_false, Bool.true_or, Bool.false_or, true_and, and_true, Option.isSome_some, List.length_cons, List.length_nil, ofS_beq, String.reduceBEq]
                          exact bad (by simp [blockT, hrows])
                        | true =>
                          simp only [↓u_sRet, ↓u_sRetN, ↓u_sNext, ↓u_sBrk, ↓u_sCont, ↓u_sSeq, ↓u_sDrop, ↓u_sIf, ↓u_wNil, ↓u_wCons, ↓u_wTup, ↓u_wLst, ↓u_wTst, ↓u_wTru, ↓u_wAnd, ↓u_wOr, ↓u_wNot, ↓u_wAndV, ↓u_wOrV, ↓u_wNotV, ↓u_wIfE, ↓u_wC, ↓u_wOp, ↓u_wUn, ↓u_wCall, ↓u_wChain, ↓u_wIsi, ↓u_wPart, ↓u_wNoPart, ↓u_wSl, ↓u_slT, ↓u_slL, ↓u_wMeth, ↓u_wKGet, ↓u_wInK, ↓u_sAsg, ↓u_exbl, ↓u_exint, ↓u_exstr, ↓u_exref, ↓u_exsome, ↓u_trubl, ↓u_truint, ↓u_trunon, ↓u_trulst, ↓u_trutup, ↓oEq_ss, ↓oEq_ii, ↓oEq_bb, ↓oEq_ni, ↓oNe_ss, ↓oNe_ii, ↓oNe_bb, ↓oEq_l0, ↓oNe_l0, ↓oEq_t0, ↓oNe_t0, ↓oLt_ii, ↓oLe_ii, ↓oGt_ii, ↓oGe_ii, ↓oSub_ii, ↓oAdd_ii, ↓u_lenT, ↓u_lenL, ↓u_isnon, ↓u_ixtup0, ↓u_ixlst0, ↓u_ixtup1, ↓u_ixlst1, ↓u_ixtup2, ↓u_ixlst2, ↓u_ixtup3, ↓u_ixlst3, ↓u_ixtup4, ↓u_ixlst4, ↓u_ixtup5, ↓u_ixlst5, ↓u_v0, ↓u_s0, ↓u_v1, ↓u_s1, ↓u_v2, ↓u_s2, ↓u_v3, ↓u_s3, ↓u_v4, ↓u_s4, ↓u_v5, ↓u_s5, ↓u_v6, ↓u_s6, ↓u_v7, ↓u_s7, ↓u_v8, ↓u_s8, ↓u_v9, ↓u_s9, ↓u_v10, ↓u_s10, ↓u_v11, ↓u_s11, ↓u_v12, ↓u_s12, ↓u_v13, ↓u_s13, ↓u_v14, ↓u_s14, ↓u_v15, ↓u_s15, ↓u_v16, ↓u_s16, ↓u_v17, ↓u_s17, ↓u_v18, ↓u_s18, ↓u_v19, ↓u_s19, if_true, if_false, Bool.false_eq_true, Bool.not_true, Bool.not_false, Bool.true_and, Bool.false_and, Bool.and_true, Bool.and_false, Bool.or_true, Bool.or_false, Bool.true_or, Bool.false_or, true_and, and_true, Option.isSome_some, List.length_cons, List.length_nil, ofS_beq, String.reduceBEq]
                          have := good (by simp [blockT, hrows, hend]) x6
                          rw [hr, ← Int.add_assoc] at this
                          exact this
                  | _ => simp only [↓u_sRet, ↓u_sRetN, ↓u_sNext, ↓u_sBrk, ↓u_sCont, ↓u_sSeq, ↓u_sDrop, ↓u_sIf, ↓u_wNil, ↓u_wCons, ↓u_wTup, ↓u_wLst, ↓u_wTst, ↓u_wTru, ↓u_wAnd, ↓u_wOr, ↓u_wNot, ↓u_wAndV, ↓u_wOrV, ↓u_wNotV, ↓u_wIfE, ↓u_wC, ↓u_wOp, ↓u_wUn, ↓u_wCall, ↓u_wChain, ↓u_wIsi, ↓u_wPart, ↓u_wNoPart, ↓u_wSl, ↓u_slT, ↓u_slL, ↓u_wMeth, ↓u_wKGet, ↓u_wInK, ↓u_sAsg, ↓u_exbl, ↓u_exint, ↓u_exstr, ↓u_exref, ↓u_exsome, ↓u_trubl, ↓u_truint, ↓u_trunon, ↓u_trulst, ↓u_trutup, ↓oEq_ss, ↓oEq_ii, ↓oEq_bb, ↓oEq_ni, ↓oNe_ss, ↓oNe_ii, ↓oNe_bb, ↓oEq_l0, ↓oNe_l0, ↓oEq_t0, ↓oNe_t0, ↓oLt_ii, ↓oLe_ii, ↓oGt_ii, ↓oGe_ii, ↓oSub_ii, ↓oAdd_ii, ↓u_lenT, ↓u_lenL, ↓u_isnon, ↓u_ixtup0, ↓u_ixlst0, ↓u_ixtup1, ↓u_ixlst1, ↓u_ixtup2, ↓u_ixlst2, ↓u_ixtup3, ↓u_ixlst3, ↓u_ixtup4, ↓u_ixlst4, ↓u_ixtup5, ↓u_ixlst5, ↓u_v0, ↓u_s0, ↓u_v1, ↓u_s1, ↓u_v2, ↓u_s2, ↓u_v3, ↓u_s3, ↓u_v4, ↓u_s4, ↓u_v5, ↓u_s5, ↓u_v6, ↓u_s6, ↓u_v7, ↓u_s7, ↓u_v8, ↓u_s8, ↓u_v9, ↓u_s9, ↓u_v10, ↓u_s10, ↓u_v11, ↓u_s11, ↓u_v12, ↓u_s12, ↓u_v13, ↓u_s13, ↓u_v14, ↓u_s14, ↓u_v15, ↓u_s15, ↓u_v16, ↓u_s16, ↓u_v17, ↓u_s17, ↓u_v18, ↓u_s18, ↓u_v19, ↓u_s19, if_true, if_false, Bool.false_eq_true, Bool.not_true, Bool.not_false, Bool.true_and, Bool.false_and, Bool.and_true, Bool.and_false, Bool.or_true, Bool.or_false, Bool.true_or, Bool.false_or, true_and, and_true, Option.isSome_some, List.length_cons, List.length_nil, ofS_beq, String.reduceBEq, k1, k2, l1, l2]; exact bad rfl
              | _ => simp only [↓u_sRet, ↓u_sRetN, ↓u_sNext, ↓u_sBrk, ↓u_sCont, ↓u_sSeq, ↓u_sDrop, ↓u_sIf, ↓u_wNil, ↓u_wCons, ↓u_wTup, ↓u_wLst, ↓u_wTst, ↓u_wTru, ↓u_wAnd, ↓u_wOr, ↓u_wNot, ↓u_wAndV, ↓u_wOrV, ↓u_wNotV, ↓u_wIfE, ↓u_wC, ↓u_wOp, ↓u_wUn, ↓u_wCall, ↓u_wChain, ↓u_wIsi, ↓u_wPart, ↓u_wNoPart, ↓u_wSl, ↓u_slT, ↓u_slL, ↓u_wMeth, ↓u_wKGet, ↓u_wInK, ↓u_sAsg, ↓u_exbl, ↓u_exint, ↓u_exstr, ↓u_exref, ↓u_exsome, ↓u_trubl, ↓u_truint, ↓u_trunon, ↓u_trulst, ↓u_trutup, ↓oEq_ss, ↓oEq_ii, ↓oEq_bb, ↓oEq_ni, ↓oNe_ss, ↓oNe_ii, ↓oNe_bb, ↓oEq_l0, ↓oNe_l0, ↓oEq_t0, ↓oNe_t0, ↓oLt_ii, ↓oLe_ii, ↓oGt_ii, ↓oGe_ii, ↓oSub_ii, ↓oAdd_ii, ↓u_lenT, ↓u_lenL, ↓u_isnon, ↓u_ixtup0, ↓u_ixlst0, ↓u_ixtup1, ↓u_ixlst1, ↓u_ixtup2, ↓u_ixlst2, ↓u_ixtup3, ↓u_ixlst3, ↓u_ixtup4, ↓u_ixlst4, ↓u_ixtup5, ↓u_ixlst5, ↓u_v0, ↓u_s0, ↓u_v1, ↓u_s1, ↓u_v2, ↓u_s2, ↓u_v3, ↓u_s3, ↓u_v4, ↓u_s4, ↓u_v5, ↓u_s5, ↓u_v6, ↓u_s6, ↓u_v7, ↓u_s7, ↓u_v8, ↓u_s8, ↓u_v9, ↓u_s9, ↓u_v10, ↓u_s10, ↓u_v11, ↓u_s11, ↓u_v12, ↓u_s12, ↓u_v13, ↓u_s13, ↓u_v14, ↓u_s14, ↓u_v15, ↓u_s15, ↓u_v16, ↓u_s16, ↓u_v17, ↓u_s17, ↓u_v18, ↓u_s18, ↓u_v19, ↓u_s19, if_true, if_false, Bool.false_eq_true, Bool.not_true, Bool.not_false, Bool.true_and, Bool.false_and, Bool.and_true, Bool.and_false, Bool.or_true, Bool.or_false, Bool.true_or, Bool.false_or, true_and, and_true, Option.isSome_some, List.length_cons, List.length_nil, ofS_beq, String.reduceBEq, k1, k2]; exact bad rfl
            · rintro ρ S1 ⟨rfl, m, x5, x6, pre, rfl, hpre, hall, hm⟩
              rw [List.append_nil] at hpre
              subst hpre
              simp only [↓u_sRet, ↓u_sRetN, ↓u_sNext, ↓u_sBrk, ↓u_sCont, ↓u_sSeq, ↓u_sDrop, ↓u_sIf, ↓u_wNil, ↓u_wCons, ↓u_wTup, ↓u_wLst, ↓u_wTst, ↓u_wTru, ↓u_wAnd, ↓u_wOr, ↓u_wNot, ↓u_wAndV, ↓u_wOrV, ↓u_wNotV, ↓u_wIfE, ↓u_wC, ↓u_wOp, ↓u_wUn, ↓u_wCall, ↓u_wChain, ↓u_wIsi, ↓u_wPart, ↓u_wNoPart, ↓u_wSl, ↓u_slT, ↓u_slL, ↓u_wMeth, ↓u_wKGet, ↓u_wInK, ↓u_sAsg, ↓u_exbl, ↓u_exint, ↓u_exstr, ↓u_exref, ↓u_exsome, ↓u_trubl, ↓u_truint, ↓u_trunon, ↓u_trulst, ↓u_trutup, ↓oEq_ss, ↓oEq_ii, ↓oEq_bb, ↓oEq_ni, ↓oNe_ss, ↓oNe_ii, ↓oNe_bb, ↓oEq_l0, ↓oNe_l0, ↓oEq_t0, ↓oNe_t0, ↓oLt_ii, ↓oLe_ii, ↓oGt_ii, ↓oGe_ii, ↓oSub_ii, ↓oAdd_ii, ↓u_lenT, ↓u_lenL, ↓u_isnon, ↓u_ixtup0, ↓u_ixlst0, ↓u_ixtup1, ↓u_ixlst1, ↓u_ixtup2, ↓u_ixlst2, ↓u_ixtup3, ↓u_ixlst3, ↓u_ixtup4, ↓u_ixlst4, ↓u_ixtup5, ↓u_ixlst5, ↓u_v0, ↓u_s0, ↓u_v1, ↓u_s1, ↓u_v2, ↓u_s2, ↓u_v3, ↓u_s3, ↓u_v4, ↓u_s4, ↓u_v5, ↓u_s5, ↓u_v6, ↓u_s6, ↓u_v7, ↓u_s7, ↓u_v8, ↓u_s8, ↓u_v9, ↓u_s9, ↓u_v10, ↓u_s10, ↓u_v11, ↓u_s11, ↓u_v12, ↓u_s12, ↓u_v13, ↓u_s13, ↓u_v14, ↓u_s14, ↓u_v15, ↓u_s15, ↓u_v16, ↓u_s16, ↓u_v17, ↓u_s17, ↓u_v18, ↓u_s18, ↓u_v19, ↓u_s19, if_true, if_false, Bool.false_eq_true, Bool.not_true, Bool.not_false, Bool.true_and, Bool.false_and, Bool.and_true, Bool.and_false, Bool.or_true, Bool.or_false, Bool.true_or, Bool.false_or, true_and, and_true, Option.isSome_some, List.length_cons, List.length_nil, ofS_beq, String.reduceBEq]
              refine done _ _ ?_ hext
              simp [graphT, hc, hne, hall, hm]
        | _ =>
          simp only [↓u_sRet, ↓u_sRetN, ↓u_sNext, ↓u_sBrk, ↓u_sCont, ↓u_sSeq, ↓u_sDrop, ↓u_sIf, ↓u_wNil, ↓u_wCons, ↓u_wTup, ↓u_wLst, ↓u_wTst, ↓u_wTru, ↓u_wAnd, ↓u_wOr, ↓u_wNot, ↓u_wAndV, ↓u_wOrV, ↓u_wNotV, ↓u_wIfE, ↓u_wC, ↓u_wOp, ↓u_wUn, ↓u_wCall, ↓u_wChain, ↓u_wIsi, ↓u_wPart, ↓u_wNoPart, ↓u_wSl, ↓u_slT, ↓u_slL, ↓u_wMeth, ↓u_wKGet, ↓u_wInK, ↓u_sAsg, ↓u_exbl, ↓u_exint, ↓u_exstr, ↓u_exref, ↓u_exsome, ↓u_trubl, ↓u_truint, ↓u_trunon, ↓u_trulst, ↓u_trutup, ↓oEq_ss, ↓oEq_ii, ↓oEq_bb, ↓oEq_ni, ↓oNe_ss, ↓oNe_ii, ↓oNe_bb, ↓oEq_l0, ↓oNe_l0, ↓oEq_t0, ↓oNe_t0, ↓oLt_ii, ↓oLe_ii, ↓oGt_ii, ↓oGe_ii, ↓oSub_ii, ↓oAdd_ii, ↓u_lenT, ↓u_lenL, ↓u_isnon, ↓u_ixtup0, ↓u_ixlst0, ↓u_ixtup1, ↓u_ixlst1, ↓u_ixtup2, ↓u_ixlst2, ↓u_ixtup3, ↓u_ixlst3, ↓u_ixtup4, ↓u_ixlst4, ↓u_ixtup5, ↓u_ixlst5, ↓u_v0, ↓u_s0, ↓u_v1, ↓u_s1, ↓u_v2, ↓u_s2, ↓u_v3, ↓u_s3, ↓u_v4, ↓u_s4, ↓u_v5, ↓u_s5, ↓u_v6, ↓u_s6, ↓u_v7, ↓u_s7, ↓u_v8, ↓u_s8, ↓u_v9, ↓u_s9, ↓u_v10, ↓u_s10, ↓u_v11, ↓u_s11, ↓u_v12, ↓u_s12, ↓u_v13, ↓u_s13, ↓u_v14, ↓u_s14, ↓u_v15, ↓u_s15, ↓u_v16, ↓u_s16, ↓u_v17, ↓u_s17, ↓u_v18, ↓u_s18, ↓u_v19, ↓u_s19, if_true, if_false, Bool.false_eq_true, Bool.not_true, Bool.not_false, Bool.true_and, Bool.false_and, Bool.and_true, Bool.and_false, Bool.or_true, Bool.or_false, Bool.true_or, Bool.false_or, true_and, and_true, Option.isSome_some, List.length_cons, List.length_nil, ofS_beq, String.reduceBEq, i1, i2, iff_whole, g1, hc, h2]
          refine ⟨_, rfl, ?_⟩
          simp only [List.set_cons_succ, List.set_cons_zero]
          simp only [↓u_sRet, ↓u_sRetN, ↓u_sNext, ↓u_sBrk, ↓u_sCont, ↓u_sSeq, ↓u_sDrop, ↓u_sIf, ↓u_wNil, ↓u_wCons, ↓u_wTup, ↓u_wLst, ↓u_wTst, ↓u_wTru, ↓u_wAnd, ↓u_wOr, ↓u_wNot, ↓u_wAndV, ↓u_wOrV, ↓u_wNotV, ↓u_wIfE, ↓u_wC, ↓u_wOp, ↓u_wUn, ↓u_wCall, ↓u_wChain, ↓u_wIsi, ↓u_wPart, ↓u_wNoPart, ↓u_wSl, ↓u_slT, ↓u_slL, ↓u_wMeth, ↓u_wKGet, ↓u_wInK, ↓u_sAsg, ↓u_exbl, ↓u_exint, ↓u_exstr, ↓u_exref, ↓u_exsome, ↓u_trubl, ↓u_truint, ↓u_trunon, ↓u_trulst, ↓u_trutup, ↓oEq_ss, ↓oEq_ii, ↓oEq_bb, ↓oEq_ni, ↓oNe_ss, ↓oNe_ii, ↓oNe_bb, ↓oEq_l0, ↓oNe_l0, ↓oEq_t0, ↓oNe_t0, ↓oLt_ii, ↓oLe_ii, ↓oGt_ii, ↓oGe_ii, ↓oSub_ii, ↓oAdd_ii, ↓u_lenT, ↓u_lenL, ↓u_isnon, ↓u_ixtup0, ↓u_ixlst0, ↓u_ixtup1, ↓u_ixlst1, ↓u_ixtup2, ↓u_ixlst2, ↓u_ixtup3, ↓u_ixlst3, ↓u_ixtup4, ↓u_ixlst4, ↓u_ixtup5, ↓u_ixlst5, ↓u_v0, ↓u_s0, ↓u_v1, ↓u_s1, ↓u_v2, ↓u_s2, ↓u_v3, ↓u_s3, ↓u_v4, ↓u_s4, ↓u_v5, ↓u_s5, ↓u_v6, ↓u_s6, ↓u_v7, ↓u_s7, ↓u_v8, ↓u_s8, ↓u_v9, ↓u_s9, ↓u_v10, ↓u_s10, ↓u_v11, ↓u_s11, ↓u_v12, ↓u_s12, ↓u_v13, ↓u_s13, ↓u_v14, ↓u_s14, ↓u_v15, ↓u_s15, ↓u_v16, ↓u_s16, ↓u_v17, ↓u_s17, ↓u_v18, ↓u_s18, ↓u_v19, ↓u_s19, if_true, if_false, Bool.false_eq_true, Bool.not_true, Bool.not_false, Bool.true_and, Bool.false_and, Bool.and_true, Bool.and_false, Bool.or_true, Bool.or_false, Bool.true_or, Bool.false_or, true_and, and_true, Option.isSome_some, List.length_cons, List.length_nil, ofS_beq, String.reduceBEq, j1, j2]
          exact done _ _ rfl Ext.refl
  | _ => simp only [↓u_sRet, ↓u_sRetN, ↓u_sNext, ↓u_sBrk, ↓u_sCont, ↓u_sSeq, ↓u_sDrop, ↓u_sIf, ↓u_wNil, ↓u_wCons, ↓u_wTup, ↓u_wLst, ↓u_wTst, ↓u_wTru, ↓u_wAnd, ↓u_wOr, ↓u_wNot, ↓u_wAndV, ↓u_wOrV, ↓u_wNotV, ↓u_wIfE, ↓u_wC, ↓u_wOp, ↓u_wUn, ↓u_wCall, ↓u_wChain, ↓u_wIsi, ↓u_wPart, ↓u_wNoPart, ↓u_wSl, ↓u_slT, ↓u_slL, ↓u_wMeth, ↓u_wKGet, ↓u_wInK, ↓u_sAsg, ↓u_exbl, ↓u_exint, ↓u_exstr, ↓u_exref, ↓u_exsome, ↓u_trubl, ↓u_truint, ↓u_trunon, ↓u_trulst, ↓u_trutup, ↓oEq_ss, ↓oEq_ii, ↓oEq_bb, ↓oEq_ni, ↓oNe_ss, ↓oNe_ii, ↓oNe_bb, ↓oEq_l0, ↓oNe_l0, ↓oEq_t0, ↓oNe_t0, ↓oLt_ii, ↓oLe_ii, ↓oGt_ii, ↓oGe_ii, ↓oSub_ii, ↓oAdd_ii, ↓u_lenT, ↓u_lenL, ↓u_isnon, ↓u_ixtup0, ↓u_ixlst0, ↓u_ixtup1, ↓u_ixlst1, ↓u_ixtup2, ↓u_ixlst2, ↓u_ixtup3, ↓u_ixlst3, ↓u_ixtup4, ↓u_ixlst4, ↓u_ixtup5, ↓u_ixlst5, ↓u_v0, ↓u_s0, ↓u_v1, ↓u_s1, ↓u_v2, ↓u_s2, ↓u_v3, ↓u_s3, ↓u_v4, ↓u_s4, ↓u_v5, ↓u_s5, ↓u_v6, ↓u_s6, ↓u_v7, ↓u_s7, ↓u_v8, ↓u_s8, ↓u_v9, ↓u_s9, ↓u_v10, ↓u_s10, ↓u_v11, ↓u_s11, ↓u_v12, ↓u_s12, ↓u_v13, ↓u_s13, ↓u_v14, ↓u_s14, ↓u_v15, ↓u_s15, ↓u_v16, ↓u_s16, ↓u_v17, ↓u_s17, ↓u_v18, ↓u_s18, ↓u_v19, ↓u_s19, if_true, if_false, Bool.false_eq_true, Bool.not_true, Bool.not_false, Bool.true_and, Bool.false_and, Bool.and_true, Bool.and_false, Bool.or_true, Bool.or_false, Bool.true_or, Bool.false_or, true_and, and_true, Option.isSome_some, List.length_cons, List.length_nil, ofS_beq, String.reduceBEq, i1, i2]; exact done _ _ rfl Ext.refl
end TL.K

set_option Elab.async false
set_option linter.all false
set_option maxRecDepth 100000
set_option maxHeartbeats 8000000
namespace TL.K
open PySem L2 PyProof.Rows
theorem mul_r {i j : Int} {S : Sto} {R : Post} (h : -(2 ^ 64) < j ∧ j < 2 ^ 64) : (oMul (.int i) (.int j) S R) = (R (.int (i * j)) S) := propext ⟨fun q => q.2, fun q => ⟨.inr h, q⟩⟩
theorem mul_l {i j : Int} {S : Sto} {R : Post} (h : -(2 ^ 64) < i ∧ i < 2 ^ 64) : (oMul (.int i) (.int j) S R) = (R (.int (i * j)) S) := propext ⟨fun q => q.2, fun q => ⟨.inl h, q⟩⟩
theorem mod_ii {i j : Int} {S : Sto} {R : Post} (h : 0 < j) : (oMod (.int i) (.int j) S R) = (R (.int (i % j)) S) := propext ⟨fun q => q.2, fun q => ⟨h, q⟩⟩
theorem div_ii {i j : Int} {S : Sto} {R : Post} (h : 0 < j ∧ j < 1073741824) : (oDiv (.int i) (.int j) S R) = (R (.int (i / j)) S) := propext ⟨fun q => q.2, fun q => ⟨h, q⟩⟩
theorem pow_ii {i j : Int} {S : Sto} {R : Post} (h : 0 ≤ j ∧ j ≤ 1000000 ∧ i.natAbs < 2 ^ 64) : (oPow (.int i) (.int j) S R) = (R (.int (i ^ j.toNat)) S) := propext ⟨fun q => q.2, fun q => ⟨h, q⟩⟩
theorem int_1 {i : Int} {S : Sto} {R : Post} : (oInt1 [.int i] S R) = (R (.int i) S) := propext ⟨fun q => by
  rcases q with ⟨j, e, q⟩ | ⟨b, e, q⟩ <;> cases e
  exact q, fun q => .inl ⟨i, rfl, q⟩⟩
theorem max_2 {i j : Int} {S : Sto} {R : Post} : (oMax2 [.int i, .int j] S R) = (R (.int (if j > i then j else i)) S) := propext ⟨fun ⟨a, b, e, q⟩ => by cases e; exact q, fun q => ⟨i, j, rfl, q⟩⟩
theorem slA {ns : List Int} {lo hi : Option Int} {S : Sto} {R : Post} : (oSl (.arg ns) lo hi S R) = (R (.lst ((cutT ns lo hi).map T.int)) S) := rfl
theorem mu1 {i : Int} {S : Sto} {R : Post} : (oMul (.int i) (.int 48271) S R) = (R (.int (i * 48271)) S) := mul_r (by decide)
theorem mu2 {i : Int} {S : Sto} {R : Post} : (oMul (.int 1099511627791) (.int i) S R) = (R (.int (1099511627791 * i)) S) := mul_l (by decide)
theorem mu3 {i : Int} {S : Sto} {R : Post} : (oMul (.int i) (.int 6364136223846793005) S R) = (R (.int (i * 6364136223846793005)) S) := mul_r (by decide)
theorem mu4 {i : Int} {S : Sto} {R : Post} : (oMul (.int 2862933555777941757) (.int i) S R) = (R (.int (2862933555777941757 * i)) S) := mul_l (by decide)
theorem mo1 {i : Int} {S : Sto} {R : Post} : (oMod (.int i) (.int 2305843009213693921) S R) = (R (.int (i % 2305843009213693921)) S) := mod_ii (by decide)
theorem mo2 {i : Int} {S : Sto} {R : Post} : (oMod (.int i) (.int 2305843009213693951) S R) = (R (.int (i % 2305843009213693951)) S) := mod_ii (by decide)
theorem di1 {i : Int} {S : Sto} {R : Post} : (oDiv (.int i) (.int 4096) S R) = (R (.int (i / 4096)) S) := div_ii (by decide)
theorem po1 {S : Sto} {R : Post} : (oPow (.int 10) (.int 18) S R) = (R (.int (10 ^ 18)) S) := pow_ii (by decide)
theorem po2 {S : Sto} {R : Post} : (oPow (.int 10) (.int 30) S R) = (R (.int (10 ^ 30)) S) := pow_ii (by decide)
def dkL (b : Addr) (m d : Int) : List (Key × T) := [(.inr "left", .ref b), (.inr "mixed", .int m), (.inr "draws", .int d)]
theorem val_left {b : Addr} {m d : Int} : valT (dkL b m d) (.inr (Str.ofString "left")) = some (.ref b) := by simp [valT, dkL]
theorem val_mixed {b : Addr} {m d : Int} : valT (dkL b m d) (.inr (Str.ofString "mixed")) = some (.int m) := by simp [valT, dkL, ofS_eq]
theorem val_draws {b : Addr} {m d : Int} : valT (dkL b m d) (.inr (Str.ofString "draws")) = some (.int d) := by simp [valT, dkL, ofS_eq]
theorem put_draws {b : Addr} {m d e : Int} : putT (dkL b m d) (.inr (Str.ofString "draws")) (.int e) = dkL b m e := by simp [putT, dkL, ofS_eq]
theorem get_at {S : Sto} {a : Addr} {kvs : List (Key × T)} {k : Str} {t : T} {ρ : Sl} {R : Post} (h : S a = some (.dK kvs)) (hv : valT kvs (.inr k) = some t) : (wDGet (wVar 0) (wC (.str k)) (some (.ref a) :: ρ) S R) = (R t S) := by
  have hd : dgT S a (.str k) = some (some t) := by unfold dgT; rw [h]; simp [keyT, hv]
  rw [u_wDGet]
  simp only [↓u_v0, ↓u_wC]
  exact propext ⟨fun ⟨a', t', e, h1, q⟩ => by cases e; rw [hd] at h1; cases h1; exact q, fun q => ⟨a, t, rfl, hd, q⟩⟩
theorem g_left {S : Sto} {a b : Addr} {m d : Int} {ρ : Sl} {R : Post} (h : S a = some (.dK (dkL b m d))) : (wDGet (wVar 0) (wC (.str (Str.ofString "left"))) (some (.ref a) :: ρ) S R) = (R (.ref b) S) := get_at h val_left
theorem g_mixed {S : Sto} {a b : Addr} {m d : Int} {ρ : Sl} {R : Post} (h : S a = some (.dK (dkL b m d))) : (wDGet (wVar 0) (wC (.str (Str.ofString "mixed"))) (some (.ref a) :: ρ) S R) = (R (.int m) S) := get_at h val_mixed
theorem g_draws {S : Sto} {a b : Addr} {m d : Int} {ρ : Sl} {R : Post} (h : S a = some (.dK (dkL b m d))) : (wDGet (wVar 0) (wC (.str (Str.ofString "draws"))) (some (.ref a) :: ρ) S R) = (R (.int d) S) := get_at h val_draws
theorem pop_eq {S : Sto} {b : Addr} {l : List T} {x : T} {R : Post} (h : S b = some (.lst (l ++ [x]))) : (oPop0 (.ref b) [] S R) = (R x (supd S b (.lst l))) := by
  apply propext
  constructor
  · rintro ⟨a, t, ts, e, _, h1, h2, q⟩
    cases e
    rw [h] at h1
    cases h1
    simp at h2 q
    subst h2
    exact q
  · intro q
    exact ⟨b, x, _, rfl, rfl, h, by simp, by simpa using q⟩
theorem app_eq {S : Sto} {b : Addr} {l : List T} {x : T} {R : Post} (h : S b = some (.lst l)) (hl : l.length < sizeLine) : (oAppend (.ref b) [x] S R) = (R .non (supd S b (.lst (l ++ [x])))) :=
  propext ⟨fun ⟨a, y, ts, e1, e2, h1, _, q⟩ => by cases e1; cases e2; rw [h] at h1; cases h1; exact q, fun q => ⟨b, x, l, rfl, rfl, h, hl, q⟩⟩
theorem emod_rng {i n : Int} (h : 0 < n) : 0 ≤ i % n ∧ i % n < n := ⟨Int.emod_nonneg _ (by omega), Int.emod_lt_of_pos _ h⟩
theorem ok_law_draw : ∀ ts S R, sp_law_draw ts S R → w_law_draw { nx := fun _ S' => R .non S', rt := R } (startT n_law_draw ts) S := by
  rintro ts S R ⟨a, b, n, rfl, ⟨ns, m, d, hns, hab, ha, hb⟩, hn0, hn1, q⟩
  rw [show startT n_law_draw [.ref a, .int n] = [some (.ref a), some (.int n), none, none] from rfl]
  unfold w_law_draw
  have hsl := sizeLine_eq
  have ha : S a = some (.dK (dkL b m d)) := ha
  have hput : dPutT0 S a (.str (Str.ofString "draws")) (.int (d + 1)) = some (.dK (dkL b m (d + 1))) := by
    unfold dPutT0
    rw [ha]
    simp only [keyT, Option.map_some, put_draws]
    rw [if_pos (by simp [dkL]; omega)]
  simp only [↓u_sRet, ↓u_sRetN, ↓u_sNext, ↓u_sBrk, ↓u_sCont, ↓u_sSeq, ↓u_sDrop, ↓u_sIf, ↓u_wNil, ↓u_wCons, ↓u_wTup, ↓u_wLst, ↓u_wTst, ↓u_wTru, ↓u_wAnd, ↓u_wOr, ↓u_wNot, ↓u_wAndV, ↓u_wOrV, ↓u_wNotV, ↓u_wIfE, ↓u_wC, ↓u_wOp, ↓u_wUn, ↓u_wCall, ↓u_wChain, ↓u_wIsi, ↓u_wPart, ↓u_wNoPart, ↓u_wSl, ↓u_slT, ↓u_slL, ↓u_wMeth, ↓u_wKGet, ↓u_wInK, ↓u_sAsg, ↓u_exbl, ↓u_exint, ↓u_exstr, ↓u_exref, ↓u_exsome, ↓u_trubl, ↓u_truint, ↓u_trunon, ↓u_trulst, ↓u_trutup, ↓oEq_ss, ↓oEq_ii, ↓oEq_bb, ↓oEq_ni, ↓oNe_ss, ↓oNe_ii, ↓oNe_bb, ↓oEq_l0, ↓oNe_l0, ↓oEq_t0, ↓oNe_t0, ↓oLt_ii, ↓oLe_ii, ↓oGt_ii, ↓oGe_ii, ↓oSub_ii, ↓oAdd_ii, ↓u_lenT, ↓u_lenL, ↓u_isnon, ↓u_ixtup0, ↓u_ixlst0, ↓u_ixtup1, ↓u_ixlst1, ↓u_ixtup2, ↓u_ixlst2, ↓u_ixtup3, ↓u_ixlst3, ↓u_ixtup4, ↓u_ixlst4, ↓u_ixtup5, ↓u_ixlst5, ↓u_v0, ↓u_s0, ↓u_v1, ↓u_s1, ↓u_v2, ↓u_s2, ↓u_v3, ↓u_s3, ↓u_v4, ↓u_s4, ↓u_v5, ↓u_s5, ↓u_v6, ↓u_s6, ↓u_v7, ↓u_s7, ↓u_v8, ↓u_s8, ↓u_v9, ↓u_s9, ↓u_v10, ↓u_s10, ↓u_v11, ↓u_s11, ↓u_v12, ↓u_s12, ↓u_v13, ↓u_s13, ↓u_v14, ↓u_s14, ↓u_v15, ↓u_s15, ↓u_v16, ↓u_s16, ↓u_v17, ↓u_s17, ↓u_v18, ↓u_s18, ↓u_v19, ↓u_s19, if_true, if_false, Bool.false_eq_true, Bool.not_true, Bool.not_false, Bool.true_and, Bool.false_and, Bool.and_true, Bool.and_false, Bool.or_true, Bool.or_false, Bool.true_or, Bool.false_or, true_and, and_true, Option.isSome_some, List.length_cons, List.length_nil, ofS_beq, String.reduceBEq, ↓u_sDPutT, ↓g_draws ha]
  refine ⟨a, _, rfl, hput, ?_⟩
  have h1 : supd S a (.dK (dkL b m (d + 1))) a = some (.dK (dkL b m (d + 1))) := supd_same
  have hb1 : supd S a (.dK (dkL b m (d + 1))) b = some (.lst (ns.map T.int)) := by rw [supd_ne hab.symm]; exact hb
  have k1 : Kp a b S (supd S a (.dK (dkL b m (d + 1)))) := fun x v h1 h2 h3 => by rw [supd_ne h1]; exact h3
  generalize supd S a (.dK (dkL b m (d + 1))) = S1 at *
  simp only [↓u_sRet, ↓u_sRetN, ↓u_sNext, ↓u_sBrk, ↓u_sCont, ↓u_sSeq, ↓u_sDrop, ↓u_sIf, ↓u_wNil, ↓u_wCons, ↓u_wTup, ↓u_wLst, ↓u_wTst, ↓u_wTru, ↓u_wAnd, ↓u_wOr, ↓u_wNot, ↓u_wAndV, ↓u_wOrV, ↓u_wNotV, ↓u_wIfE, ↓u_wC, ↓u_wOp, ↓u_wUn, ↓u_wCall, ↓u_wChain, ↓u_wIsi, ↓u_wPart, ↓u_wNoPart, ↓u_wSl, ↓u_slT, ↓u_slL, ↓u_wMeth, ↓u_wKGet, ↓u_wInK, ↓u_sAsg, ↓u_exbl, ↓u_exint, ↓u_exstr, ↓u_exref, ↓u_exsome, ↓u_trubl, ↓u_truint, ↓u_trunon, ↓u_trulst, ↓u_trutup, ↓oEq_ss, ↓oEq_ii, ↓oEq_bb, ↓oEq_ni, ↓oNe_ss, ↓oNe_ii, ↓oNe_bb, ↓oEq_l0, ↓oNe_l0, ↓oEq_t0, ↓oNe_t0, ↓oLt_ii, ↓oLe_ii, ↓oGt_ii, ↓oGe_ii, ↓oSub_ii, ↓oAdd_ii, ↓u_lenT, ↓u_lenL, ↓u_isnon, ↓u_ixtup0, ↓u_ixlst0, ↓u_ixtup1, ↓u_ixlst1, ↓u_ixtup2, ↓u_ixlst2, ↓u_ixtup3, ↓u_ixlst3, ↓u_ixtup4, ↓u_ixlst4, ↓u_ixtup5, ↓u_ixlst5, ↓u_v0, ↓u_s0, ↓u_v1, ↓u_s1, ↓u_v2, ↓u_s2, ↓u_v3, ↓u_s3, ↓u_v4, ↓u_s4, ↓u_v5, ↓u_s5, ↓u_v6, ↓u_s6, ↓u_v7, ↓u_s7, ↓u_v8, ↓u_s8, ↓u_v9, ↓u_s9, ↓u_v10, ↓u_s10, ↓u_v11, ↓u_s11, ↓u_v12, ↓u_s12, ↓u_v13, ↓u_s13, ↓u_v14, ↓u_s14, ↓u_v15, ↓u_s15, ↓u_v16, ↓u_s16, ↓u_v17, ↓u_s17, ↓u_v18, ↓u_s18, ↓u_v19, ↓u_s19, if_true, if_false, Bool.false_eq_true, Bool.not_true, Bool.not_false, Bool.true_and, Bool.false_and, Bool.and_true, Bool.and_false, Bool.or_true, Bool.or_false, Bool.true_or, Bool.false_or, true_and, and_true, Option.isSome_some, List.length_cons, List.length_nil, ofS_beq, String.reduceBEq, ↓g_draws h1, ↓g_mixed h1, ↓g_left h1, ↓mu2, ↓oNe_c0 hb1]
  have tail : ∀ (fig : Int) (x3 : Option T) (S2 : Sto), S2 a = some (.dK (dkL b m (d + 1))) → Dk a b S2 → Kp a b S S2 →
      (sSeq (sSet 2 (wOp oMod (wCall oInt1 (wCons (wOp oAdd (wOp oMul (wVar 2) (wC (.int 6364136223846793005))) (wC (.int 1442695040888963407))) wNil)) (wC (.int 2305843009213693951))))
        (sSeq (sSet 2 (wOp oMod (wCall oInt1 (wCons (wOp oAdd (wOp oAdd (wOp oMul (wVar 2) (wVar 2)) (wOp oMul (wC (.int 2862933555777941757)) (wDGet (wVar 0) (wC (.str (Str.ofString "draws")))))) (wC (.int 19))) wNil)) (wC (.int 2305843009213693951))))
        (sRet (wOp oMod (wCall oInt1 (wCons (wOp oDiv (wVar 2) (wC (.int 4096))) wNil)) (wVar 1))))) { nx := fun _ S' => R .non S', rt := R } [some (.ref a), some (.int n), some (.int fig), x3] S2 := by
    intro fig x3 S2 g1 g2 g3
    have hr := emod_rng (i := fig * 6364136223846793005 + 1442695040888963407) (n := 2305843009213693951) (by decide)
    simp only [↓u_sRet, ↓u_sRetN, ↓u_sNext, ↓u_sBrk, ↓u_sCont, ↓u_sSeq, ↓u_sDrop, ↓u_sIf, ↓u_wNil, ↓u_wCons, ↓u_wTup, ↓u_wLst, ↓u_wTst, ↓u_wTru, ↓u_wAnd, ↓u_wOr, ↓u_wNot, ↓u_wAndV, ↓u_wOrV, ↓u_wNotV, ↓u_wIfE, ↓u_wC, ↓u_wOp, ↓u_wUn, ↓u_wCall, ↓u_wChain, ↓u_wIsi, ↓u_wPart, ↓u_wNoPart, ↓u_wSl, ↓u_slT, ↓u_slL, ↓u_wMeth, ↓u_wKGet, ↓u_wInK, ↓u_sAsg, ↓u_exbl, ↓u_exint, ↓u_exstr, ↓u_exref, ↓u_exsome, ↓u_trubl, ↓u_truint, ↓u_trunon, ↓u_trulst, ↓u_trutup, ↓oEq_ss, ↓oEq_ii, ↓oEq_bb, ↓oEq_ni, ↓oNe_ss, ↓oNe_ii, ↓oNe_bb, ↓oEq_l0, ↓oNe_l0, ↓oEq_t0, ↓oNe_t0, ↓oLt_ii, ↓oLe_ii, ↓oGt_ii, ↓oGe_ii, ↓oSub_ii, ↓oAdd_ii, ↓u_lenT, ↓u_lenL, ↓u_isnon, ↓u_ixtup0, ↓u_ixlst0, ↓u_ixtup1, ↓u_ixlst1, ↓u_ixtup2, ↓u_ixlst2, ↓u_ixtup3, ↓u_ixlst3, ↓u_ixtup4, ↓u_ixlst4, ↓u_ixtup5, ↓u_ixlst5, ↓u_v0, ↓u_s0, ↓u_v1, ↓u_s1, ↓u_v2, ↓u_s2, ↓u_v3, ↓u_s3, ↓u_v4, ↓u_s4, ↓u_v5, ↓u_s5, ↓u_v6, ↓u_s6, ↓u_v7, ↓u_s7, ↓u_v8, ↓u_s8, ↓u_v9, ↓u_s9, ↓u_v10, ↓u_s10, ↓u_v11, ↓u_s11, ↓u_v12, ↓u_s12, ↓u_v13, ↓u_s13, ↓u_v14, ↓u_s14, ↓u_v15, ↓u_s15, ↓u_v16, ↓u_s16, ↓u_v17, ↓u_s17, ↓u_v18, ↓u_s18, ↓u_v19, ↓u_s19, if_true, if_false, Bool.false_eq_true, Bool.not_true, Bool.not_false, Bool.true_and, Bool.false_and, Bool.and_true, Bool.and_false, Bool.or_true, Bool.or_false, Bool.true_or, Bool.false_or, true_and, and_true, Option.isSome_some, List.length_cons, List.length_nil, ofS_beq, String.reduceBEq, ↓mu3, ↓int_1, ↓mo2]
    generalize (fig * 6364136223846793005 + 1442695040888963407) % 2305843009213693951 = r at *
    rw [mul_l (by omega)]
    simp only [↓u_sRet, ↓u_sRetN, ↓u_sNext, ↓u_sBrk, ↓u_sCont, ↓u_sSeq, ↓u_sDrop, ↓u_sIf, ↓u_wNil, ↓u_wCons, ↓u_wTup, ↓u_wLst, ↓u_wTst, ↓u_wTru, ↓u_wAnd, ↓u_wOr, ↓u_wNot, ↓u_wAndV, ↓u_wOrV, ↓u_wNotV, ↓u_wIfE, ↓u_wC, ↓u_wOp, ↓u_wUn, ↓u_wCall, ↓u_wChain, ↓u_wIsi, ↓u_wPart, ↓u_wNoPart, ↓u_wSl, ↓u_slT, ↓u_slL, ↓u_wMeth, ↓u_wKGet, ↓u_wInK, ↓u_sAsg, ↓u_exbl, ↓u_exint, ↓u_exstr, ↓u_exref, ↓u_exsome, ↓u_trubl, ↓u_truint, ↓u_trunon, ↓u_trulst, ↓u_trutup, ↓oEq_ss, ↓oEq_ii, ↓oEq_bb, ↓oEq_ni, ↓oNe_ss, ↓oNe_ii, ↓oNe_bb, ↓oEq_l0, ↓oNe_l0, ↓oEq_t0, ↓oNe_t0, ↓oLt_ii, ↓oLe_ii, ↓oGt_ii, ↓oGe_ii, ↓oSub_ii, ↓oAdd_ii, ↓u_lenT, ↓u_lenL, ↓u_isnon, ↓u_ixtup0, ↓u_ixlst0, ↓u_ixtup1, ↓u_ixlst1, ↓u_ixtup2, ↓u_ixlst2, ↓u_ixtup3, ↓u_ixlst3, ↓u_ixtup4, ↓u_ixlst4, ↓u_ixtup5, ↓u_ixlst5, ↓u_v0, ↓u_s0, ↓u_v1, ↓u_s1, ↓u_v2, ↓u_s2, ↓u_v3, ↓u_s3, ↓u_v4, ↓u_s4, ↓u_v5, ↓u_s5, ↓u_v6, ↓u_s6, ↓u_v7, ↓u_s7, ↓u_v8, ↓u_s8, ↓u_v9, ↓u_s9, ↓u_v10, ↓u_s10, ↓u_v11, ↓u_s11, ↓u_v12, ↓u_s12, ↓u_v13, ↓u_s13, ↓u_v14, ↓u_s14, ↓u_v15, ↓u_s15, ↓u_v16, ↓u_s16, ↓u_v17, ↓u_s17, ↓u_v18, ↓u_s18, ↓u_v19, ↓u_s19, if_true, if_false, Bool.false_eq_true, Bool.not_true, Bool.not_false, Bool.true_and, Bool.false_and, Bool.and_true, Bool.and_false, Bool.or_true, Bool.or_false, Bool.true_or, Bool.false_or, true_and, and_true, Option.isSome_some, List.length_cons, List.length_nil, ofS_beq, String.reduceBEq, ↓g_draws g1, ↓mu4, ↓int_1, ↓mo2, ↓di1, ↓mod_ii hn0]
    exact q _ _ (emod_rng hn0).1 (emod_rng hn0).2 g2 g3
  have dk : ∀ (S2 : Sto) (l : List Int), l.length ≤ 63 → S2 a = some (.dK (dkL b m (d + 1))) → S2 b = some (.lst (l.map T.int)) → Dk a b S2 := fun S2 l h h1 h2 => ⟨l, m, d + 1, h, hab, h1, h2⟩
  rcases List.eq_nil_or_concat ns with hns0 | ⟨l, x, hns0⟩
  · subst hns0
    simp only [↓u_sRet, ↓u_sRetN, ↓u_sNext, ↓u_sBrk, ↓u_sCont, ↓u_sSeq, ↓u_sDrop, ↓u_sIf, ↓u_wNil, ↓u_wCons, ↓u_wTup, ↓u_wLst, ↓u_wTst, ↓u_wTru, ↓u_wAnd, ↓u_wOr, ↓u_wNot, ↓u_wAndV, ↓u_wOrV, ↓u_wNotV, ↓u_wIfE, ↓u_wC, ↓u_wOp, ↓u_wUn, ↓u_wCall, ↓u_wChain, ↓u_wIsi, ↓u_wPart, ↓u_wNoPart, ↓u_wSl, ↓u_slT, ↓u_slL, ↓u_wMeth, ↓u_wKGet, ↓u_wInK, ↓u_sAsg, ↓u_exbl, ↓u_exint, ↓u_exstr, ↓u_exref, ↓u_exsome, ↓u_trubl, ↓u_truint, ↓u_trunon, ↓u_trulst, ↓u_trutup, ↓oEq_ss, ↓oEq_ii, ↓oEq_bb, ↓oEq_ni, ↓oNe_ss, ↓oNe_ii, ↓oNe_bb, ↓oEq_l0, ↓oNe_l0, ↓oEq_t0, ↓oNe_t0, ↓oLt_ii, ↓oLe_ii, ↓oGt_ii, ↓oGe_ii, ↓oSub_ii, ↓oAdd_ii, ↓u_lenT, ↓u_lenL, ↓u_isnon, ↓u_ixtup0, ↓u_ixlst0, ↓u_ixtup1, ↓u_ixlst1, ↓u_ixtup2, ↓u_ixlst2, ↓u_ixtup3, ↓u_ixlst3, ↓u_ixtup4, ↓u_ixlst4, ↓u_ixtup5, ↓u_ixlst5, ↓u_v0, ↓u_s0, ↓u_v1, ↓u_s1, ↓u_v2, ↓u_s2, ↓u_v3, ↓u_s3, ↓u_v4, ↓u_s4, ↓u_v5, ↓u_s5, ↓u_v6, ↓u_s6, ↓u_v7, ↓u_s7, ↓u_v8, ↓u_s8, ↓u_v9, ↓u_s9, ↓u_v10, ↓u_s10, ↓u_v11, ↓u_s11, ↓u_v12, ↓u_s12, ↓u_v13, ↓u_s13, ↓u_v14, ↓u_s14, ↓u_v15, ↓u_s15, ↓u_v16, ↓u_s16, ↓u_v17, ↓u_s17, ↓u_v18, ↓u_s18, ↓u_v19, ↓u_s19, if_true, if_false, Bool.false_eq_true, Bool.not_true, Bool.not_false, Bool.true_and, Bool.false_and, Bool.and_true, Bool.and_false, Bool.or_true, Bool.or_false, Bool.true_or, Bool.false_or, true_and, and_true, Option.isSome_some, List.length_cons, List.length_nil, ofS_beq, String.reduceBEq, List.map_nil, List.isEmpty_nil]
    have t := tail (m + 1099511627791 * (d + 1)) none S1 h1 (dk _ [] (by simp) h1 hb1) k1
    simp only [↓u_sRet, ↓u_sRetN, ↓u_sNext, ↓u_sBrk, ↓u_sCont, ↓u_sSeq, ↓u_sDrop, ↓u_sIf, ↓u_wNil, ↓u_wCons, ↓u_wTup, ↓u_wLst, ↓u_wTst, ↓u_wTru, ↓u_wAnd, ↓u_wOr, ↓u_wNot, ↓u_wAndV, ↓u_wOrV, ↓u_wNotV, ↓u_wIfE, ↓u_wC, ↓u_wOp, ↓u_wUn, ↓u_wCall, ↓u_wChain, ↓u_wIsi, ↓u_wPart, ↓u_wNoPart, ↓u_wSl, ↓u_slT, ↓u_slL, ↓u_wMeth, ↓u_wKGet, ↓u_wInK, ↓u_sAsg, ↓u_exbl, ↓u_exint, ↓u_exstr, ↓u_exref, ↓u_exsome, ↓u_trubl, ↓u_truint, ↓u_trunon, ↓u_trulst, ↓u_trutup, ↓oEq_ss, ↓oEq_ii, ↓oEq_bb, ↓oEq_ni, ↓oNe_ss, ↓oNe_ii, ↓oNe_bb, ↓oEq_l0, ↓oNe_l0, ↓oEq_t0, ↓oNe_t0, ↓oLt_ii, ↓oLe_ii, ↓oGt_ii, ↓oGe_ii, ↓oSub_ii, ↓oAdd_ii, ↓u_lenT, ↓u_lenL, ↓u_isnon, ↓u_ixtup0, ↓u_ixlst0, ↓u_ixtup1, ↓u_ixlst1, ↓u_ixtup2, ↓u_ixlst2, ↓u_ixtup3, ↓u_ixlst3, ↓u_ixtup4, ↓u_ixlst4, ↓u_ixtup5, ↓u_ixlst5, ↓u_v0, ↓u_s0, ↓u_v1, ↓u_s1, ↓u_v2, ↓u_s2, ↓u_v3, ↓u_s3, ↓u_v4, ↓u_s4, ↓u_v5, ↓u_s5, ↓u_v6, ↓u_s6, ↓u_v7, ↓u_s7, ↓u_v8, ↓u_s8, ↓u_v9, ↓u_s9, ↓u_v10, ↓u_s10, ↓u_v11, ↓u_s11, ↓u_v12, ↓u_s12, ↓u_v13, ↓u_s13, ↓u_v14, ↓u_s14, ↓u_v15, ↓u_s15, ↓u_v16, ↓u_s16, ↓u_v17, ↓u_s17, ↓u_v18, ↓u_s18, ↓u_v19, ↓u_s19, if_true, if_false, Bool.false_eq_true, Bool.not_true, Bool.not_false, Bool.true_and, Bool.false_and, Bool.and_true, Bool.and_false, Bool.or_true, Bool.or_false, Bool.true_or, Bool.false_or, true_and, and_true, Option.isSome_some, List.length_cons, List.length_nil, ofS_beq, String.reduceBEq] at t
    exact ⟨Nat.zero_le _, t⟩
  · rw [List.concat_eq_append] at hns0
    subst hns0
    rw [List.map_append] at hb1
    have hne : (List.map T.int (l ++ [x])).isEmpty = false := by simp
    simp only [↓u_sRet, ↓u_sRetN, ↓u_sNext, ↓u_sBrk, ↓u_sCont, ↓u_sSeq, ↓u_sDrop, ↓u_sIf, ↓u_wNil, ↓u_wCons, ↓u_wTup, ↓u_wLst, ↓u_wTst, ↓u_wTru, ↓u_wAnd, ↓u_wOr, ↓u_wNot, ↓u_wAndV, ↓u_wOrV, ↓u_wNotV, ↓u_wIfE, ↓u_wC, ↓u_wOp, ↓u_wUn, ↓u_wCall, ↓u_wChain, ↓u_wIsi, ↓u_wPart, ↓u_wNoPart, ↓u_wSl, ↓u_slT, ↓u_slL, ↓u_wMeth, ↓u_wKGet, ↓u_wInK, ↓u_sAsg, ↓u_exbl, ↓u_exint, ↓u_exstr, ↓u_exref, ↓u_exsome, ↓u_trubl, ↓u_truint, ↓u_trunon, ↓u_trulst, ↓u_trutup, ↓oEq_ss, ↓oEq_ii, ↓oEq_bb, ↓oEq_ni, ↓oNe_ss, ↓oNe_ii, ↓oNe_bb, ↓oEq_l0, ↓oNe_l0, ↓oEq_t0, ↓oNe_t0, ↓oLt_ii, ↓oLe_ii, ↓oGt_ii, ↓oGe_ii, ↓oSub_ii, ↓oAdd_ii, ↓u_lenT, ↓u_lenL, ↓u_isnon, ↓u_ixtup0, ↓u_ixlst0, ↓u_ixtup1, ↓u_ixlst1, ↓u_ixtup2, ↓u_ixlst2, ↓u_ixtup3, ↓u_ixlst3, ↓u_ixtup4, ↓u_ixlst4, ↓u_ixtup5, ↓u_ixlst5, ↓u_v0, ↓u_s0, ↓u_v1, ↓u_s1, ↓u_v2, ↓u_s2, ↓u_v3, ↓u_s3, ↓u_v4, ↓u_s4, ↓u_v5, ↓u_s5, ↓u_v6, ↓u_s6, ↓u_v7, ↓u_s7, ↓u_v8, ↓u_s8, ↓u_v9, ↓u_s9, ↓u_v10, ↓u_s10, ↓u_v11, ↓u_s11, ↓u_v12, ↓u_s12, ↓u_v13, ↓u_s13, ↓u_v14, ↓u_s14, ↓u_v15, ↓u_s15, ↓u_v16, ↓u_s16, ↓u_v17, ↓u_s17, ↓u_v18, ↓u_s18, ↓u_v19, ↓u_s19, if_true, if_false, Bool.false_eq_true, Bool.not_true, Bool.not_false, Bool.true_and, Bool.false_and, Bool.and_true, Bool.and_false, Bool.or_true, Bool.or_false, Bool.true_or, Bool.false_or, true_and, and_true, Option.isSome_some, List.length_cons, List.length_nil, ofS_beq, String.reduceBEq, hne, ↓pop_eq hb1, ↓po1]
    have hl : l.length ≤ 62 := by simp at hns; omega
    have h2 : supd S1 b (.lst (l.map T.int)) a = some (.dK (dkL b m (d + 1))) := by rw [supd_ne hab]; exact h1
    have hb2 : supd S1 b (.lst (l.map T.int)) b = some (.lst (l.map T.int)) := supd_same
    have k2 : Kp a b S (supd S1 b (.lst (l.map T.int))) := fun x v e1 e2 e3 => by rw [supd_ne e2]; exact k1 x v e1 e2 e3
    generalize supd S1 b (.lst (l.map T.int)) = S2 at *
    by_cases hx : x ≥ 10 ^ 18
    · rw [if_pos (by simpa using hx)]
      have hd2 : (0 : Int) < (if n > 2 then n else 2) ∧ (if n > 2 then n else 2) < 1073741824 := by
        split <;> omega
      simp only [↓u_sRet, ↓u_sRetN, ↓u_sNext, ↓u_sBrk, ↓u_sCont, ↓u_sSeq, ↓u_sDrop, ↓u_sIf, ↓u_wNil, ↓u_wCons, ↓u_wTup, ↓u_wLst, ↓u_wTst, ↓u_wTru, ↓u_wAnd, ↓u_wOr, ↓u_wNot, ↓u_wAndV, ↓u_wOrV, ↓u_wNotV, ↓u_wIfE, ↓u_wC, ↓u_wOp, ↓u_wUn, ↓u_wCall, ↓u_wChain, ↓u_wIsi, ↓u_wPart, ↓u_wNoPart, ↓u_wSl, ↓u_slT, ↓u_slL, ↓u_wMeth, ↓u_wKGet, ↓u_wInK, ↓u_sAsg, ↓u_exbl, ↓u_exint, ↓u_exstr, ↓u_exref, ↓u_exsome, ↓u_trubl, ↓u_truint, ↓u_trunon, ↓u_trulst, ↓u_trutup, ↓oEq_ss, ↓oEq_ii, ↓oEq_bb, ↓oEq_ni, ↓oNe_ss, ↓oNe_ii, ↓oNe_bb, ↓oEq_l0, ↓oNe_l0, ↓oEq_t0, ↓oNe_t0, ↓oLt_ii, ↓oLe_ii, ↓oGt_ii, ↓oGe_ii, ↓oSub_ii, ↓oAdd_ii, ↓u_lenT, ↓u_lenL, ↓u_isnon, ↓u_ixtup0, ↓u_ixlst0, ↓u_ixtup1, ↓u_ixlst1, ↓u_ixtup2, ↓u_ixlst2, ↓u_ixtup3, ↓u_ixlst3, ↓u_ixtup4, ↓u_ixlst4, ↓u_ixtup5, ↓u_ixlst5, ↓u_v0, ↓u_s0, ↓u_v1, ↓u_s1, ↓u_v2, ↓u_s2, ↓u_v3, ↓u_s3, ↓u_v4, ↓u_s4, ↓u_v5, ↓u_s5, ↓u_v6, ↓u_s6, ↓u_v7, ↓u_s7, ↓u_v8, ↓u_s8, ↓u_v9, ↓u_s9, ↓u_v10, ↓u_s10, ↓u_v11, ↓u_s11, ↓u_v12, ↓u_s12, ↓u_v13, ↓u_s13, ↓u_v14, ↓u_s14, ↓u_v15, ↓u_s15, ↓u_v16, ↓u_s16, ↓u_v17, ↓u_s17, ↓u_v18, ↓u_s18, ↓u_v19, ↓u_s19, if_true, if_false, Bool.false_eq_true, Bool.not_true, Bool.not_false, Bool.true_and, Bool.false_and, Bool.and_true, Bool.and_false, Bool.or_true, Bool.or_false, Bool.true_or, Bool.false_or, true_and, and_true, Option.isSome_some, List.length_cons, List.length_nil, ofS_beq, String.reduceBEq, ↓g_left h2, tyT, hb2, ↓max_2, ↓div_ii hd2, ↓int_1, ↓mod_ii hn0]
      rw [app_eq (l := l.map T.int) hb2 (by rw [List.length_map]; omega)]
      have h3 : ∀ y, supd S2 b (.lst (l.map T.int ++ [T.int y])) a = some (.dK (dkL b m (d + 1))) := fun y => by rw [supd_ne hab]; exact h2
      refine ⟨Nat.zero_le _, by rw [hb1], q _ _ (emod_rng hn0).1 (emod_rng hn0).2 (dk _ (l ++ [x / (if n > 2 then n else 2)]) (by simp; omega) (h3 _) (by rw [supd_same, List.map_append]; rfl)) fun x v e1 e2 e3 => ?_⟩
      rw [supd_ne e2]
      exact k2 x v e1 e2 e3
    · rw [if_neg (by simpa using hx)]
      simp only [↓u_sRet, ↓u_sRetN, ↓u_sNext, ↓u_sBrk, ↓u_sCont, ↓u_sSeq, ↓u_sDrop, ↓u_sIf, ↓u_wNil, ↓u_wCons, ↓u_wTup, ↓u_wLst, ↓u_wTst, ↓u_wTru, ↓u_wAnd, ↓u_wOr, ↓u_wNot, ↓u_wAndV, ↓u_wOrV, ↓u_wNotV, ↓u_wIfE, ↓u_wC, ↓u_wOp, ↓u_wUn, ↓u_wCall, ↓u_wChain, ↓u_wIsi, ↓u_wPart, ↓u_wNoPart, ↓u_wSl, ↓u_slT, ↓u_slL, ↓u_wMeth, ↓u_wKGet, ↓u_wInK, ↓u_sAsg, ↓u_exbl, ↓u_exint, ↓u_exstr, ↓u_exref, ↓u_exsome, ↓u_trubl, ↓u_truint, ↓u_trunon, ↓u_trulst, ↓u_trutup, ↓oEq_ss, ↓oEq_ii, ↓oEq_bb, ↓oEq_ni, ↓oNe_ss, ↓oNe_ii, ↓oNe_bb, ↓oEq_l0, ↓oNe_l0, ↓oEq_t0, ↓oNe_t0, ↓oLt_ii, ↓oLe_ii, ↓oGt_ii, ↓oGe_ii, ↓oSub_ii, ↓oAdd_ii, ↓u_lenT, ↓u_lenL, ↓u_isnon, ↓u_ixtup0, ↓u_ixlst0, ↓u_ixtup1, ↓u_ixlst1, ↓u_ixtup2, ↓u_ixlst2, ↓u_ixtup3, ↓u_ixlst3, ↓u_ixtup4, ↓u_ixlst4, ↓u_ixtup5, ↓u_ixlst5, ↓u_v0, ↓u_s0, ↓u_v1, ↓u_s1, ↓u_v2, ↓u_s2, ↓u_v3, ↓u_s3, ↓u_v4, ↓u_s4, ↓u_v5, ↓u_s5, ↓u_v6, ↓u_s6, ↓u_v7, ↓u_s7, ↓u_v8, ↓u_s8, ↓u_v9, ↓u_s9, ↓u_v10, ↓u_s10, ↓u_v11, ↓u_s11, ↓u_v12, ↓u_s12, ↓u_v13, ↓u_s13, ↓u_v14, ↓u_s14, ↓u_v15, ↓u_s15, ↓u_v16, ↓u_s16, ↓u_v17, ↓u_s17, ↓u_v18, ↓u_s18, ↓u_v19, ↓u_s19, if_true, if_false, Bool.false_eq_true, Bool.not_true, Bool.not_false, Bool.true_and, Bool.false_and, Bool.and_true, Bool.and_false, Bool.or_true, Bool.or_false, Bool.true_or, Bool.false_or, true_and, and_true, Option.isSome_some, List.length_cons, List.length_nil, ofS_beq, String.reduceBEq, ↓int_1, ↓mo1]
      have t := tail (m + 1099511627791 * (d + 1) + x % 2305843009213693921) (some (.int x)) S2 h2 (dk _ l (by omega) h2 hb2) k2
      simp only [↓u_sRet, ↓u_sRetN, ↓u_sNext, ↓u_sBrk, ↓u_sCont, ↓u_sSeq, ↓u_sDrop, ↓u_sIf, ↓u_wNil, ↓u_wCons, ↓u_wTup, ↓u_wLst, ↓u_wTst, ↓u_wTru, ↓u_wAnd, ↓u_wOr, ↓u_wNot, ↓u_wAndV, ↓u_wOrV, ↓u_wNotV, ↓u_wIfE, ↓u_wC, ↓u_wOp, ↓u_wUn, ↓u_wCall, ↓u_wChain, ↓u_wIsi, ↓u_wPart, ↓u_wNoPart, ↓u_wSl, ↓u_slT, ↓u_slL, ↓u_wMeth, ↓u_wKGet, ↓u_wInK, ↓u_sAsg, ↓u_exbl, ↓u_exint, ↓u_exstr, ↓u_exref, ↓u_exsome, ↓u_trubl, ↓u_truint, ↓u_trunon, ↓u_trulst, ↓u_trutup, ↓oEq_ss, ↓oEq_ii, ↓oEq_bb, ↓oEq_ni, ↓oNe_ss, ↓oNe_ii, ↓oNe_bb, ↓oEq_l0, ↓oNe_l0, ↓oEq_t0, ↓oNe_t0, ↓oLt_ii, ↓oLe_ii, ↓oGt_ii, ↓oGe_ii, ↓oSub_ii, ↓oAdd_ii, ↓u_lenT, ↓u_lenL, ↓u_isnon, ↓u_ixtup0, ↓u_ixlst0, ↓u_ixtup1, ↓u_ixlst1, ↓u_ixtup2, ↓u_ixlst2, ↓u_ixtup3, ↓u_ixlst3, ↓u_ixtup4, ↓u_ixlst4, ↓u_ixtup5, ↓u_ixlst5, ↓u_v0, ↓u_s0, ↓u_v1, ↓u_s1, ↓u_v2, ↓u_s2, ↓u_v3, ↓u_s3, ↓u_v4, ↓u_s4, ↓u_v5, ↓u_s5, ↓u_v6, ↓u_s6, ↓u_v7, ↓u_s7, ↓u_v8, ↓u_s8, ↓u_v9, ↓u_s9, ↓u_v10, ↓u_s10, ↓u_v11, ↓u_s11, ↓u_v12, ↓u_s12, ↓u_v13, ↓u_s13, ↓u_v14, ↓u_s14, ↓u_v15, ↓u_s15, ↓u_v16, ↓u_s16, ↓u_v17, ↓u_s17, ↓u_v18, ↓u_s18, ↓u_v19, ↓u_s19, if_true, if_false, Bool.false_eq_true, Bool.not_true, Bool.not_false, Bool.true_and, Bool.false_and, Bool.and_true, Bool.and_false, Bool.or_true, Bool.or_false, Bool.true_or, Bool.false_or, true_and, and_true, Option.isSome_some, List.length_cons, List.length_nil, ofS_beq, String.reduceBEq] at t
      exact ⟨Nat.zero_le _, by simp only [tyT]; rw [hb1], t⟩
theorem ok_law_pick : ∀ ts S R, sp_law_pick ts S R → w_law_pick { nx := fun _ S' => R .non S', rt := R } (startT n_law_pick ts) S := by
  rintro ts S R ⟨a, b, xs, rfl, hd, hne, hl, q⟩
  rw [show startT n_law_pick [.ref a, .lst xs] = [some (.ref a), some (.lst xs)] from rfl]
  unfold w_law_pick
  have h0 : 0 < xs.length := List.length_pos_iff.mpr hne
  simp only [↓u_sRet, ↓u_sRetN, ↓u_sNext, ↓u_sBrk, ↓u_sCont, ↓u_sSeq, ↓u_sDrop, ↓u_sIf, ↓u_wNil, ↓u_wCons, ↓u_wTup, ↓u_wLst, ↓u_wTst, ↓u_wTru, ↓u_wAnd, ↓u_wOr, ↓u_wNot, ↓u_wAndV, ↓u_wOrV, ↓u_wNotV, ↓u_wIfE, ↓u_wC, ↓u_wOp, ↓u_wUn, ↓u_wCall, ↓u_wChain, ↓u_wIsi, ↓u_wPart, ↓u_wNoPart, ↓u_wSl, ↓u_slT, ↓u_slL, ↓u_wMeth, ↓u_wKGet, ↓u_wInK, ↓u_sAsg, ↓u_exbl, ↓u_exint, ↓u_exstr, ↓u_exref, ↓u_exsome, ↓u_trubl, ↓u_truint, ↓u_trunon, ↓u_trulst, ↓u_trutup, ↓oEq_ss, ↓oEq_ii, ↓oEq_bb, ↓oEq_ni, ↓oNe_ss, ↓oNe_ii, ↓oNe_bb, ↓oEq_l0, ↓oNe_l0, ↓oEq_t0, ↓oNe_t0, ↓oLt_ii, ↓oLe_ii, ↓oGt_ii, ↓oGe_ii, ↓oSub_ii, ↓oAdd_ii, ↓u_lenT, ↓u_lenL, ↓u_isnon, ↓u_ixtup0, ↓u_ixlst0, ↓u_ixtup1, ↓u_ixlst1, ↓u_ixtup2, ↓u_ixlst2, ↓u_ixtup3, ↓u_ixlst3, ↓u_ixtup4, ↓u_ixlst4, ↓u_ixtup5, ↓u_ixlst5, ↓u_v0, ↓u_s0, ↓u_v1, ↓u_s1, ↓u_v2, ↓u_s2, ↓u_v3, ↓u_s3, ↓u_v4, ↓u_s4, ↓u_v5, ↓u_s5, ↓u_v6, ↓u_s6, ↓u_v7, ↓u_s7, ↓u_v8, ↓u_s8, ↓u_v9, ↓u_s9, ↓u_v10, ↓u_s10, ↓u_v11, ↓u_s11, ↓u_v12, ↓u_s12, ↓u_v13, ↓u_s13, ↓u_v14, ↓u_s14, ↓u_v15, ↓u_s15, ↓u_v16, ↓u_s16, ↓u_v17, ↓u_s17, ↓u_v18, ↓u_s18, ↓u_v19, ↓u_s19, if_true, if_false, Bool.false_eq_true, Bool.not_true, Bool.not_false, Bool.true_and, Bool.false_and, Bool.and_true, Bool.and_false, Bool.or_true, Bool.or_false, Bool.true_or, Bool.false_or, true_and, and_true, Option.isSome_some, List.length_cons, List.length_nil, ofS_beq, String.reduceBEq]
  refine ⟨a, b, ((xs.length : Nat) : Int), rfl, hd, by omega, by omega, fun i S' h1 h2 hd' hk => ?_⟩
  show oIx _ _ _ _
  have hi : i.toNat < xs.length := by omega
  have e : xs[i.toNat]? = some xs[i.toNat] := List.getElem?_eq_getElem hi
  rw [show i = ((i.toNat : Nat) : Int) by omega, oIx_l (at_nat e)]
  exact q _ _ (List.getElem_mem hi) hd' hk
theorem cut63 (ns : List Int) : (cutT ns none (some 63)).length ≤ 63 := by
  unfold cutT HT.sIx
  simp
  omega
theorem ok_law_deck : ∀ ts S R, sp_law_deck ts S R → w_law_deck { nx := fun _ S' => R .non S', rt := R } (startT n_law_deck ts) S := by
  rintro ts S R ⟨ns, rfl, q⟩
  rw [show startT n_law_deck [.arg ns] = [some (.arg ns), none, none] from rfl]
  unfold w_law_deck
  have hsl := sizeLine_eq
  simp only [↓u_sRet, ↓u_sRetN, ↓u_sNext, ↓u_sBrk, ↓u_sCont, ↓u_sSeq, ↓u_sDrop, ↓u_sIf, ↓u_wNil, ↓u_wCons, ↓u_wTup, ↓u_wLst, ↓u_wTst, ↓u_wTru, ↓u_wAnd, ↓u_wOr, ↓u_wNot, ↓u_wAndV, ↓u_wOrV, ↓u_wNotV, ↓u_wIfE, ↓u_wC, ↓u_wOp, ↓u_wUn, ↓u_wCall, ↓u_wChain, ↓u_wIsi, ↓u_wPart, ↓u_wNoPart, ↓u_wSl, ↓u_slT, ↓u_slL, ↓u_wMeth, ↓u_wKGet, ↓u_wInK, ↓u_sAsg, ↓u_exbl, ↓u_exint, ↓u_exstr, ↓u_exref, ↓u_exsome, ↓u_trubl, ↓u_truint, ↓u_trunon, ↓u_trulst, ↓u_trutup, ↓oEq_ss, ↓oEq_ii, ↓oEq_bb, ↓oEq_ni, ↓oNe_ss, ↓oNe_ii, ↓oNe_bb, ↓oEq_l0, ↓oNe_l0, ↓oEq_t0, ↓oNe_t0, ↓oLt_ii, ↓oLe_ii, ↓oGt_ii, ↓oGe_ii, ↓oSub_ii, ↓oAdd_ii, ↓u_lenT, ↓u_lenL, ↓u_isnon, ↓u_ixtup0, ↓u_ixlst0, ↓u_ixtup1, ↓u_ixlst1, ↓u_ixtup2, ↓u_ixlst2, ↓u_ixtup3, ↓u_ixlst3, ↓u_ixtup4, ↓u_ixlst4, ↓u_ixtup5, ↓u_ixlst5, ↓u_v0, ↓u_s0, ↓u_v1, ↓u_s1, ↓u_v2, ↓u_s2, ↓u_v3, ↓u_s3, ↓u_v4, ↓u_s4, ↓u_v5, ↓u_s5, ↓u_v6, ↓u_s6, ↓u_v7, ↓u_s7, ↓u_v8, ↓u_s8, ↓u_v9, ↓u_s9, ↓u_v10, ↓u_s10, ↓u_v11, ↓u_s11, ↓u_v12, ↓u_s12, ↓u_v13, ↓u_s13, ↓u_v14, ↓u_s14, ↓u_v15, ↓u_s15, ↓u_v16, ↓u_s16, ↓u_v17, ↓u_s17, ↓u_v18, ↓u_s18, ↓u_v19, ↓u_s19, if_true, if_false, Bool.false_eq_true, Bool.not_true, Bool.not_false, Bool.true_and, Bool.false_and, Bool.and_true, Bool.and_false, Bool.or_true, Bool.or_false, Bool.true_or, Bool.false_or, true_and, and_true, Option.isSome_some, List.length_cons, List.length_nil, ofS_beq, String.reduceBEq]
  show wSl _ _ _ _ _ _
  simp only [↓u_sRet, ↓u_sRetN, ↓u_sNext, ↓u_sBrk, ↓u_sCont, ↓u_sSeq, ↓u_sDrop, ↓u_sIf, ↓u_wNil, ↓u_wCons, ↓u_wTup, ↓u_wLst, ↓u_wTst, ↓u_wTru, ↓u_wAnd, ↓u_wOr, ↓u_wNot, ↓u_wAndV, ↓u_wOrV, ↓u_wNotV, ↓u_wIfE, ↓u_wC, ↓u_wOp, ↓u_wUn, ↓u_wCall, ↓u_wChain, ↓u_wIsi, ↓u_wPart, ↓u_wNoPart, ↓u_wSl, ↓u_slT, ↓u_slL, ↓u_wMeth, ↓u_wKGet, ↓u_wInK, ↓u_sAsg, ↓u_exbl, ↓u_exint, ↓u_exstr, ↓u_exref, ↓u_exsome, ↓u_trubl, ↓u_truint, ↓u_trunon, ↓u_trulst, ↓u_trutup, ↓oEq_ss, ↓oEq_ii, ↓oEq_bb, ↓oEq_ni, ↓oNe_ss, ↓oNe_ii, ↓oNe_bb, ↓oEq_l0, ↓oNe_l0, ↓oEq_t0, ↓oNe_t0, ↓oLt_ii, ↓oLe_ii, ↓oGt_ii, ↓oGe_ii, ↓oSub_ii, ↓oAdd_ii, ↓u_lenT, ↓u_lenL, ↓u_isnon, ↓u_ixtup0, ↓u_ixlst0, ↓u_ixtup1, ↓u_ixlst1, ↓u_ixtup2, ↓u_ixlst2, ↓u_ixtup3, ↓u_ixlst3, ↓u_ixtup4, ↓u_ixlst4, ↓u_ixtup5, ↓u_ixlst5, ↓u_v0, ↓u_s0, ↓u_v1, ↓u_s1, ↓u_v2, ↓u_s2, ↓u_v3, ↓u_s3, ↓u_v4, ↓u_s4, ↓u_v5, ↓u_s5, ↓u_v6, ↓u_s6, ↓u_v7, ↓u_s7, ↓u_v8, ↓u_s8, ↓u_v9, ↓u_s9, ↓u_v10, ↓u_s10, ↓u_v11, ↓u_s11, ↓u_v12, ↓u_s12, ↓u_v13, ↓u_s13, ↓u_v14, ↓u_s14, ↓u_v15, ↓u_s15, ↓u_v16, ↓u_s16, ↓u_v17, ↓u_s17, ↓u_v18, ↓u_s18, ↓u_v19, ↓u_s19, if_true, if_false, Bool.false_eq_true, Bool.not_true, Bool.not_false, Bool.true_and, Bool.false_and, Bool.and_true, Bool.and_false, Bool.or_true, Bool.or_false, Bool.true_or, Bool.false_or, true_and, and_true, Option.isSome_some, List.length_cons, List.length_nil, ofS_beq, String.reduceBEq, ↓slA]
  refine ⟨_, rfl, ?_⟩
  refine loop_rest (fun rest ρ S1 => S1 = S ∧ ∃ (m : Int) (x : Option T) (l : List Int), ρ = [some (.arg ns), some (.int m), x] ∧ rest = l.map T.int) ⟨rfl, _, _, _, rfl, rfl⟩ ?_ ?_
  · rintro t rest ρ S1 ⟨rfl, m, x, l, rfl, hl⟩
    cases l with
    | nil => simp at hl
    | cons y l =>
      rw [List.map_cons] at hl
      injection hl with h1 h2
      subst h1; subst h2
      refine ⟨_, rfl, fun nx hnx => ?_⟩
      show sSet 1 _ _ [some (.arg ns), some (.int m), some (.int y)] S1
      simp only [↓u_sRet, ↓u_sRetN, ↓u_sNext, ↓u_sBrk, ↓u_sCont, ↓u_sSeq, ↓u_sDrop, ↓u_sIf, ↓u_wNil, ↓u_wCons, ↓u_wTup, ↓u_wLst, ↓u_wTst, ↓u_wTru, ↓u_wAnd, ↓u_wOr, ↓u_wNot, ↓u_wAndV, ↓u_wOrV, ↓u_wNotV, ↓u_wIfE, ↓u_wC, ↓u_wOp, ↓u_wUn, ↓u_wCall, ↓u_wChain, ↓u_wIsi, ↓u_wPart, ↓u_wNoPart, ↓u_wSl, ↓u_slT, ↓u_slL, ↓u_wMeth, ↓u_wKGet, ↓u_wInK, ↓u_sAsg, ↓u_exbl, ↓u_exint, ↓u_exstr, ↓u_exref, ↓u_exsome, ↓u_trubl, ↓u_truint, ↓u_trunon, ↓u_trulst, ↓u_trutup, ↓oEq_ss, ↓oEq_ii, ↓oEq_bb, ↓oEq_ni, ↓oNe_ss, ↓oNe_ii, ↓oNe_bb, ↓oEq_l0, ↓oNe_l0, ↓oEq_t0, ↓oNe_t0, ↓oLt_ii, ↓oLe_ii, ↓oGt_ii, ↓oGe_ii, ↓oSub_ii, ↓oAdd_ii, ↓u_lenT, ↓u_lenL, ↓u_isnon, ↓u_ixtup0, ↓u_ixlst0, ↓u_ixtup1, ↓u_ixlst1, ↓u_ixtup2, ↓u_ixlst2, ↓u_ixtup3, ↓u_ixlst3, ↓u_ixtup4, ↓u_ixlst4, ↓u_ixtup5, ↓u_ixlst5, ↓u_v0, ↓u_s0, ↓u_v1, ↓u_s1, ↓u_v2, ↓u_s2, ↓u_v3, ↓u_s3, ↓u_v4, ↓u_s4, ↓u_v5, ↓u_s5, ↓u_v6, ↓u_s6, ↓u_v7, ↓u_s7, ↓u_v8, ↓u_s8, ↓u_v9, ↓u_s9, ↓u_v10, ↓u_s10, ↓u_v11, ↓u_s11, ↓u_v12, ↓u_s12, ↓u_v13, ↓u_s13, ↓u_v14, ↓u_s14, ↓u_v15, ↓u_s15, ↓u_v16, ↓u_s16, ↓u_v17, ↓u_s17, ↓u_v18, ↓u_s18, ↓u_v19, ↓u_s19, if_true, if_false, Bool.false_eq_true, Bool.not_true, Bool.not_false, Bool.true_and, Bool.false_and, Bool.and_true, Bool.and_false, Bool.or_true, Bool.or_false, Bool.true_or, Bool.false_or, true_and, and_true, Option.isSome_some, List.length_cons, List.length_nil, ofS_beq, String.reduceBEq, ↓int_1, ↓mu1, ↓mo1, ↓mo2]
      exact hnx _ _ ⟨rfl, _, _, _, rfl, rfl⟩
  · rintro ρ S1 ⟨rfl, m, x, l, rfl, hl⟩
    simp only [↓u_sRet, ↓u_sRetN, ↓u_sNext, ↓u_sBrk, ↓u_sCont, ↓u_sSeq, ↓u_sDrop, ↓u_sIf, ↓u_wNil, ↓u_wCons, ↓u_wTup, ↓u_wLst, ↓u_wTst, ↓u_wTru, ↓u_wAnd, ↓u_wOr, ↓u_wNot, ↓u_wAndV, ↓u_wOrV, ↓u_wNotV, ↓u_wIfE, ↓u_wC, ↓u_wOp, ↓u_wUn, ↓u_wCall, ↓u_wChain, ↓u_wIsi, ↓u_wPart, ↓u_wNoPart, ↓u_wSl, ↓u_slT, ↓u_slL, ↓u_wMeth, ↓u_wKGet, ↓u_wInK, ↓u_sAsg, ↓u_exbl, ↓u_exint, ↓u_exstr, ↓u_exref, ↓u_exsome, ↓u_trubl, ↓u_truint, ↓u_trunon, ↓u_trulst, ↓u_trutup, ↓oEq_ss, ↓oEq_ii, ↓oEq_bb, ↓oEq_ni, ↓oNe_ss, ↓oNe_ii, ↓oNe_bb, ↓oEq_l0, ↓oNe_l0, ↓oEq_t0, ↓oNe_t0, ↓oLt_ii, ↓oLe_ii, ↓oGt_ii, ↓oGe_ii, ↓oSub_ii, ↓oAdd_ii, ↓u_lenT, ↓u_lenL, ↓u_isnon, ↓u_ixtup0, ↓u_ixlst0, ↓u_ixtup1, ↓u_ixlst1, ↓u_ixtup2, ↓u_ixlst2, ↓u_ixtup3, ↓u_ixlst3, ↓u_ixtup4, ↓u_ixlst4, ↓u_ixtup5, ↓u_ixlst5, ↓u_v0, ↓u_s0, ↓u_v1, ↓u_s1, ↓u_v2, ↓u_s2, ↓u_v3, ↓u_s3, ↓u_v4, ↓u_s4, ↓u_v5, ↓u_s5, ↓u_v6, ↓u_s6, ↓u_v7, ↓u_s7, ↓u_v8, ↓u_s8, ↓u_v9, ↓u_s9, ↓u_v10, ↓u_s10, ↓u_v11, ↓u_s11, ↓u_v12, ↓u_s12, ↓u_v13, ↓u_s13, ↓u_v14, ↓u_s14, ↓u_v15, ↓u_s15, ↓u_v16, ↓u_s16, ↓u_v17, ↓u_s17, ↓u_v18, ↓u_s18, ↓u_v19, ↓u_s19, if_true, if_false, Bool.false_eq_true, Bool.not_true, Bool.not_false, Bool.true_and, Bool.false_and, Bool.and_true, Bool.and_false, Bool.or_true, Bool.or_false, Bool.true_or, Bool.false_or, true_and, and_true, Option.isSome_some, List.length_cons, List.length_nil, ofS_beq, String.reduceBEq, ↓u_disp, ↓u_p0, ↓u_p1, wRevC, ↓slA]
    refine ⟨_, _, rfl, rfl, by rw [List.length_map]; have := cut63 ns; omega, _, rfl, fun b hb => ?_⟩
    refine ⟨dkL b m 0, rfl, by show 3 ≤ 15; omega, fun a ha => ?_⟩
    have hm : mergeT [] (dkL b m 0) = dkL b m 0 := by
      rw [merge_app]
      · rfl
      · simp [dkL, ofS_eq]
    rw [hm]
    have hab : a ≠ b := fun e => by rw [e, supd_same] at ha; cases ha
    have ha' : S1 a = none := by rw [supd_ne hab] at ha; exact ha
    refine q a b _ (Ext.trans (ext_new hb) (ext_new ha)) ha' ⟨(cutT ns none (some 63)).reverse, m, 0, ?_, hab, supd_same, ?_⟩
    · rw [List.length_reverse]; exact cut63 ns
    · rw [supd_ne hab.symm, supd_same, List.map_reverse]
end TL.K

set_option Elab.async false
set_option linter.all false
set_option maxRecDepth 100000
set_option maxHeartbeats 8000000
namespace TL.K
open PySem L2 PyProof.Rows
theorem u_sPar {i j : Nat} {wa wb : WE} {E : EndsT} {ρ : Sl} {S : Sto} : (sPar i j wa wb E ρ S) = (wa ρ S fun x S1 => wb ρ S1 fun y S2 => E.nx ((ρ.set i (some x)).set j (some y)) S2) := rfl
theorem u_cell {ws : WA} {ρ : Sl} {S : Sto} {R : Post} : (wCell ws ρ S R) = (ws ρ S fun xs S1 => xs.length ≤ sizeLine ∧ ∀ a, S1 a = none → R (.ref a) (supd S1 a (.lst xs))) := rfl
theorem Kp.upd {a b p : Addr} {S S1 : Sto} {c : Cell} (h : Kp a b S S1) (hp : S p = none) : Kp a b S (supd S1 p c) := fun x v h1 h2 h3 => by
  have : x ≠ p := fun e => by rw [e, hp] at h3; cases h3
  rw [supd_ne this]
  exact h x v h1 h2 h3
theorem Dk.upd {a b p : Addr} {S : Sto} {c : Cell} (d : Dk a b S) (ha : p ≠ a) (hb : p ≠ b) : Dk a b (supd S p c) := by
  obtain ⟨ns, m, dd, h1, h2, h3, h4⟩ := d
  exact ⟨ns, m, dd, h1, h2, by rw [supd_ne ha.symm]; exact h3, by rw [supd_ne hb.symm]; exact h4⟩
theorem seq_asL {S : Sto} {x : T} {xs : List T} (h : asL S x = some xs) : seqT S x = some xs := by
  cases x <;> simp [asL] at h <;> simp [seqT, h]
  all_goals
    split at h
    · next ts e => cases h; rw [e]
    · cases h
theorem len_ref {S : Sto} {p : Addr} {ls : List T} {R : Post} (h : S p = some (.lst ls)) : (oLen [.ref p] S R) = (R (.int (ls.length : Nat)) S) := propext (oLen_1 (by simp [lenT, h]))
theorem ty_ref {S : Sto} {p : Addr} {ls : List T} (h : S p = some (.lst ls)) : tyT S (.ref p) = some "list" := by simp [tyT, h]
theorem popAt_of {S : Sto} {p : Addr} {ls : List T} {i : Int} {R : Post} (h : S p = some (.lst ls)) (h0 : 0 ≤ i) (h1 : i < ((ls.length : Nat) : Int)) (q : ∀ t ls', t ∈ ls → ls'.length + 1 = ls.length → (∀ y ∈ ls', y ∈ ls) → R t (supd S p (.lst ls'))) : oPopAt (.ref p) [.int i] S R := by
  have hi : i.toNat < ls.length := by omega
  have e : ls[i.toNat]? = some ls[i.toNat] := List.getElem?_eq_getElem hi
  refine ⟨p, i, i.toNat, ls[i.toNat], ls, rfl, rfl, h, by unfold ixN; rw [if_pos h0, if_pos h1], e, q _ _ (List.getElem_mem hi) ?_ fun y hy => List.mem_of_mem_eraseIdx hy⟩
  rw [List.length_eraseIdx_of_lt hi]
  omega
theorem ok_law_shuffled : ∀ ts S R, sp_law_shuffled ts S R → w_law_shuffled { nx := fun _ S' => R .non S', rt := R } (startT n_law_shuffled ts) S := by
  rintro ts S R ⟨a, b, x, xs, rfl, hd, hx, hl, q⟩
  rw [show startT n_law_shuffled [.ref a, x] = [some (.ref a), some x, none, none, none] from rfl]
  unfold w_law_shuffled
  have hsl := sizeLine_eq
  simp only [↓u_sRet, ↓u_sRetN, ↓u_sNext, ↓u_sBrk, ↓u_sCont, ↓u_sSeq, ↓u_sDrop, ↓u_sIf, ↓u_wNil, ↓u_wCons, ↓u_wTup, ↓u_wLst, ↓u_wTst, ↓u_wTru, ↓u_wAnd, ↓u_wOr, ↓u_wNot, ↓u_wAndV, ↓u_wOrV, ↓u_wNotV, ↓u_wIfE, ↓u_wC, ↓u_wOp, ↓u_wUn, ↓u_wCall, ↓u_wChain, ↓u_wIsi, ↓u_wPart, ↓u_wNoPart, ↓u_wSl, ↓u_slT, ↓u_slL, ↓u_wMeth, ↓u_wKGet, ↓u_wInK, ↓u_sAsg, ↓u_exbl, ↓u_exint, ↓u_exstr, ↓u_exref, ↓u_exsome, ↓u_trubl, ↓u_truint, ↓u_trunon, ↓u_trulst, ↓u_trutup, ↓oEq_ss, ↓oEq_ii, ↓oEq_bb, ↓oEq_ni, ↓oNe_ss, ↓oNe_ii, ↓oNe_bb, ↓oEq_l0, ↓oNe_l0, ↓oEq_t0, ↓oNe_t0, ↓oLt_ii, ↓oLe_ii, ↓oGt_ii, ↓oGe_ii, ↓oSub_ii, ↓oAdd_ii, ↓u_lenT, ↓u_lenL, ↓u_isnon, ↓u_ixtup0, ↓u_ixlst0, ↓u_ixtup1, ↓u_ixlst1, ↓u_ixtup2, ↓u_ixlst2, ↓u_ixtup3, ↓u_ixlst3, ↓u_ixtup4, ↓u_ixlst4, ↓u_ixtup5, ↓u_ixlst5, ↓u_v0, ↓u_s0, ↓u_v1, ↓u_s1, ↓u_v2, ↓u_s2, ↓u_v3, ↓u_s3, ↓u_v4, ↓u_s4, ↓u_v5, ↓u_s5, ↓u_v6, ↓u_s6, ↓u_v7, ↓u_s7, ↓u_v8, ↓u_s8, ↓u_v9, ↓u_s9, ↓u_v10, ↓u_s10, ↓u_v11, ↓u_s11, ↓u_v12, ↓u_s12, ↓u_v13, ↓u_s13, ↓u_v14, ↓u_s14, ↓u_v15, ↓u_s15, ↓u_v16, ↓u_s16, ↓u_v17, ↓u_s17, ↓u_v18, ↓u_s18, ↓u_v19, ↓u_s19, if_true, if_false, Bool.false_eq_true, Bool.not_true, Bool.not_false, Bool.true_and, Bool.false_and, Bool.and_true, Bool.and_false, Bool.or_true, Bool.or_false, Bool.true_or, Bool.false_or, true_and, and_true, Option.isSome_some, List.length_cons, List.length_nil, ofS_beq, String.reduceBEq, ↓u_sPar, ↓u_cell]
  refine ⟨x, xs, rfl, seq_asL hx, by omega, fun p hp => ⟨Nat.zero_le _, fun c hc => ?_⟩⟩
  have hpc : c ≠ p := fun e => by rw [e, supd_same] at hc; cases hc
  have hc0 : S c = none := by rw [supd_ne hpc] at hc; exact hc
  have np := hd.na hp
  have nc := hd.na hc0
  rw [show List.set (List.set [some (T.ref a), some x, none, none, none] 2 (some (.ref p))) 3 (some (.ref c)) = [some (T.ref a), some x, some (.ref p), some (.ref c), none] from rfl]
  show sFor _ _ _ _ _ _
  have hp2 : supd (supd S p (.lst xs)) c (.lst []) p = some (.lst xs) := by rw [supd_ne hpc.symm, supd_same]
  have hc2 : supd (supd S p (.lst xs)) c (.lst []) c = some (.lst []) := supd_same
  have hd2 : Dk a b (supd (supd S p (.lst xs)) c (.lst [])) := (hd.upd np.1 np.2).upd nc.1 nc.2
  have hk2 : Kp a b S (supd (supd S p (.lst xs)) c (.lst [])) := (Kp.refl.upd hp).upd hc0
  generalize supd (supd S p (.lst xs)) c (.lst []) = S2 at *
  unfold sFor wRng1
  simp only [↓u_sRet, ↓u_sRetN, ↓u_sNext, ↓u_sBrk, ↓u_sCont, ↓u_sSeq, ↓u_sDrop, ↓u_sIf, ↓u_wNil, ↓u_wCons, ↓u_wTup, ↓u_wLst, ↓u_wTst, ↓u_wTru, ↓u_wAnd, ↓u_wOr, ↓u_wNot, ↓u_wAndV, ↓u_wOrV, ↓u_wNotV, ↓u_wIfE, ↓u_wC, ↓u_wOp, ↓u_wUn, ↓u_wCall, ↓u_wChain, ↓u_wIsi, ↓u_wPart, ↓u_wNoPart, ↓u_wSl, ↓u_slT, ↓u_slL, ↓u_wMeth, ↓u_wKGet, ↓u_wInK, ↓u_sAsg, ↓u_exbl, ↓u_exint, ↓u_exstr, ↓u_exref, ↓u_exsome, ↓u_trubl, ↓u_truint, ↓u_trunon, ↓u_trulst, ↓u_trutup, ↓oEq_ss, ↓oEq_ii, ↓oEq_bb, ↓oEq_ni, ↓oNe_ss, ↓oNe_ii, ↓oNe_bb, ↓oEq_l0, ↓oNe_l0, ↓oEq_t0, ↓oNe_t0, ↓oLt_ii, ↓oLe_ii, ↓oGt_ii, ↓oGe_ii, ↓oSub_ii, ↓oAdd_ii, ↓u_lenT, ↓u_lenL, ↓u_isnon, ↓u_ixtup0, ↓u_ixlst0, ↓u_ixtup1, ↓u_ixlst1, ↓u_ixtup2, ↓u_ixlst2, ↓u_ixtup3, ↓u_ixlst3, ↓u_ixtup4, ↓u_ixlst4, ↓u_ixtup5, ↓u_ixlst5, ↓u_v0, ↓u_s0, ↓u_v1, ↓u_s1, ↓u_v2, ↓u_s2, ↓u_v3, ↓u_s3, ↓u_v4, ↓u_s4, ↓u_v5, ↓u_s5, ↓u_v6, ↓u_s6, ↓u_v7, ↓u_s7, ↓u_v8, ↓u_s8, ↓u_v9, ↓u_s9, ↓u_v10, ↓u_s10, ↓u_v11, ↓u_s11, ↓u_v12, ↓u_s12, ↓u_v13, ↓u_s13, ↓u_v14, ↓u_s14, ↓u_v15, ↓u_s15, ↓u_v16, ↓u_s16, ↓u_v17, ↓u_s17, ↓u_v18, ↓u_s18, ↓u_v19, ↓u_s19, if_true, if_false, Bool.false_eq_true, Bool.not_true, Bool.not_false, Bool.true_and, Bool.false_and, Bool.and_true, Bool.and_false, Bool.or_true, Bool.or_false, Bool.true_or, Bool.false_or, true_and, and_true, Option.isSome_some, List.length_cons, List.length_nil, ofS_beq, String.reduceBEq, ↓len_ref hp2]
  refine ⟨by omega, by omega, ?_⟩
  refine loop_rest (fun rest ρ S1 => ∃ (y4 : Option T) (ls fs : List T), ρ = [some (T.ref a), some x, some (.ref p), some (.ref c), y4] ∧ S1 p = some (.lst ls) ∧ S1 c = some (.lst fs) ∧ ls.length = rest.length ∧ fs.length + ls.length = xs.length ∧ (∀ y ∈ ls, y ∈ xs) ∧ (∀ y ∈ fs, y ∈ xs) ∧ Dk a b S1 ∧ Kp a b S S1) ⟨_, xs, [], rfl, hp2, hc2, by rw [rng_len]; omega, by simp, fun y h => h, by simp, hd2, hk2⟩ ?_ ?_
  · rintro t rest ρ S1 ⟨y4, ls, fs, rfl, h1, h2, h3, h4, h5, h6, h7, h8⟩
    refine ⟨_, rfl, fun nx hnx => ?_⟩
    show sDrop _ _ [some (T.ref a), some x, some (.ref p), some (.ref c), some t] S1
    rw [List.length_cons] at h3
    simp only [↓u_sRet, ↓u_sRetN, ↓u_sNext, ↓u_sBrk, ↓u_sCont, ↓u_sSeq, ↓u_sDrop, ↓u_sIf, ↓u_wNil, ↓u_wCons, ↓u_wTup, ↓u_wLst, ↓u_wTst, ↓u_wTru, ↓u_wAnd, ↓u_wOr, ↓u_wNot, ↓u_wAndV, ↓u_wOrV, ↓u_wNotV, ↓u_wIfE, ↓u_wC, ↓u_wOp, ↓u_wUn, ↓u_wCall, ↓u_wChain, ↓u_wIsi, ↓u_wPart, ↓u_wNoPart, ↓u_wSl, ↓u_slT, ↓u_slL, ↓u_wMeth, ↓u_wKGet, ↓u_wInK, ↓u_sAsg, ↓u_exbl, ↓u_exint, ↓u_exstr, ↓u_exref, ↓u_exsome, ↓u_trubl, ↓u_truint, ↓u_trunon, ↓u_trulst, ↓u_trutup, ↓oEq_ss, ↓oEq_ii, ↓oEq_bb, ↓oEq_ni, ↓oNe_ss, ↓oNe_ii, ↓oNe_bb, ↓oEq_l0, ↓oNe_l0, ↓oEq_t0, ↓oNe_t0, ↓oLt_ii, ↓oLe_ii, ↓oGt_ii, ↓oGe_ii, ↓oSub_ii, ↓oAdd_ii, ↓u_lenT, ↓u_lenL, ↓u_isnon, ↓u_ixtup0, ↓u_ixlst0, ↓u_ixtup1, ↓u_ixlst1, ↓u_ixtup2, ↓u_ixlst2, ↓u_ixtup3, ↓u_ixlst3, ↓u_ixtup4, ↓u_ixlst4, ↓u_ixtup5, ↓u_ixlst5, ↓u_v0, ↓u_s0, ↓u_v1, ↓u_s1, ↓u_v2, ↓u_s2, ↓u_v3, ↓u_s3, ↓u_v4, ↓u_s4, ↓u_v5, ↓u_s5, ↓u_v6, ↓u_s6, ↓u_v7, ↓u_s7, ↓u_v8, ↓u_s8, ↓u_v9, ↓u_s9, ↓u_v10, ↓u_s10, ↓u_v11, ↓u_s11, ↓u_v12, ↓u_s12, ↓u_v13, ↓u_s13, ↓u_v14, ↓u_s14, ↓u_v15, ↓u_s15, ↓u_v16, ↓u_s16, ↓u_v17, ↓u_s17, ↓u_v18, ↓u_s18, ↓u_v19, ↓u_s19, if_true, if_false, Bool.false_eq_true, Bool.not_true, Bool.not_false, Bool.true_and, Bool.false_and, Bool.and_true, Bool.and_false, Bool.or_true, Bool.or_false, Bool.true_or, Bool.false_or, true_and, and_true, Option.isSome_some, List.length_cons, List.length_nil, ofS_beq, String.reduceBEq, ty_ref h1, ty_ref h2, ↓len_ref h1]
    refine ⟨a, b, _, rfl, h7, by omega, by omega, fun i S' i0 i1 d' k' => ?_⟩
    have g1 : S' p = some (.lst ls) := k' _ _ np.1 np.2 h1
    have g2 : S' c = some (.lst fs) := k' _ _ nc.1 nc.2 h2
    refine popAt_of g1 i0 i1 fun t ls' m1 m2 m3 => ?_
    have g3 : supd S' p (.lst ls') c = some (.lst fs) := by rw [supd_ne hpc]; exact g2
    show oAppend _ _ _ _
    rw [app_eq (l := fs) g3 (by omega)]
    refine hnx _ _ ⟨_, ls', fs ++ [t], rfl, by rw [supd_ne hpc.symm, supd_same], supd_same, by omega, by rw [List.length_append, List.length_singleton]; omega, fun y hy => h5 y (m3 y hy), fun y hy => ?_, (d'.upd np.1 np.2).upd nc.1 nc.2, ((h8.trans k').upd hp).upd hc0⟩
    rcases List.mem_append.mp hy with hy | hy
    · exact h6 y hy
    · have : y = t := by simpa using hy
      rw [this]; exact h5 t m1
  · rintro ρ S1 ⟨y4, ls, fs, rfl, h1, h2, h3, h4, h5, h6, h7, h8⟩
    simp only [↓u_sRet, ↓u_sRetN, ↓u_sNext, ↓u_sBrk, ↓u_sCont, ↓u_sSeq, ↓u_sDrop, ↓u_sIf, ↓u_wNil, ↓u_wCons, ↓u_wTup, ↓u_wLst, ↓u_wTst, ↓u_wTru, ↓u_wAnd, ↓u_wOr, ↓u_wNot, ↓u_wAndV, ↓u_wOrV, ↓u_wNotV, ↓u_wIfE, ↓u_wC, ↓u_wOp, ↓u_wUn, ↓u_wCall, ↓u_wChain, ↓u_wIsi, ↓u_wPart, ↓u_wNoPart, ↓u_wSl, ↓u_slT, ↓u_slL, ↓u_wMeth, ↓u_wKGet, ↓u_wInK, ↓u_sAsg, ↓u_exbl, ↓u_exint, ↓u_exstr, ↓u_exref, ↓u_exsome, ↓u_trubl, ↓u_truint, ↓u_trunon, ↓u_trulst, ↓u_trutup, ↓oEq_ss, ↓oEq_ii, ↓oEq_bb, ↓oEq_ni, ↓oNe_ss, ↓oNe_ii, ↓oNe_bb, ↓oEq_l0, ↓oNe_l0, ↓oEq_t0, ↓oNe_t0, ↓oLt_ii, ↓oLe_ii, ↓oGt_ii, ↓oGe_ii, ↓oSub_ii, ↓oAdd_ii, ↓u_lenT, ↓u_lenL, ↓u_isnon, ↓u_ixtup0, ↓u_ixlst0, ↓u_ixtup1, ↓u_ixlst1, ↓u_ixtup2, ↓u_ixlst2, ↓u_ixtup3, ↓u_ixlst3, ↓u_ixtup4, ↓u_ixlst4, ↓u_ixtup5, ↓u_ixlst5, ↓u_v0, ↓u_s0, ↓u_v1, ↓u_s1, ↓u_v2, ↓u_s2, ↓u_v3, ↓u_s3, ↓u_v4, ↓u_s4, ↓u_v5, ↓u_s5, ↓u_v6, ↓u_s6, ↓u_v7, ↓u_s7, ↓u_v8, ↓u_s8, ↓u_v9, ↓u_s9, ↓u_v10, ↓u_s10, ↓u_v11, ↓u_s11, ↓u_v12, ↓u_s12, ↓u_v13, ↓u_s13, ↓u_v14, ↓u_s14, ↓u_v15, ↓u_s15, ↓u_v16, ↓u_s16, ↓u_v17, ↓u_s17, ↓u_v18, ↓u_s18, ↓u_v19, ↓u_s19, if_true, if_false, Bool.false_eq_true, Bool.not_true, Bool.not_false, Bool.true_and, Bool.false_and, Bool.and_true, Bool.and_false, Bool.or_true, Bool.or_false, Bool.true_or, Bool.false_or, true_and, and_true, Option.isSome_some, List.length_cons, List.length_nil, ofS_beq, String.reduceBEq]
    exact q c fs S1 hc0 h2 (by rw [List.length_nil] at h3; omega) h6 h7 h8
theorem cutN {α : Type} (xs : List α) (i : Nat) (h : i ≤ xs.length) : cutT xs none (some ((i : Nat) : Int)) = xs.take i := by
  unfold cutT HT.sIx
  simp
  rw [if_neg (by omega)]
  congr 1
  omega
theorem cutF {α : Type} (xs : List α) (i : Nat) : cutT xs (some ((i : Nat) : Int)) none = xs.drop i := by
  unfold cutT HT.sIx
  simp
  rw [if_neg (by omega)]
  by_cases h : i ≤ xs.length
  · rw [Nat.min_eq_left h]
    apply List.take_of_length_le
    simp
  · rw [Nat.min_eq_right (by omega)]
    rw [List.drop_eq_nil_of_le (Nat.le_refl _), List.drop_eq_nil_of_le (by omega)]
    simp
theorem add_tt {x y : List T} {S : Sto} {R : Post} (h : x.length + y.length ≤ sizeLine) : (oAdd (.tup x) (.tup y) S R) = (R (.tup (x ++ y)) S) := propext ⟨fun q => q.2, fun q => ⟨h, q⟩⟩
theorem add_ll {x y : List T} {S : Sto} {R : Post} (h : x.length + y.length ≤ sizeLine) : (oAdd (.lst x) (.lst y) S R) = (R (.lst (x ++ y)) S) := propext ⟨fun ⟨a, b, e1, e2, _, q⟩ => by cases e1; cases e2; exact q, fun q => ⟨x, y, rfl, rfl, h, q⟩⟩
theorem ok_law_put : ∀ ts S R, sp_law_put ts S R → w_law_put { nx := fun _ S' => R .non S', rt := R } (startT n_law_put ts) S := by
  rintro ts S R ⟨c, bs, i, x, rfl, h0, h1, hl, q⟩
  rw [show startT n_law_put [.tup [c, .tup bs], .int i, x] = [some (.tup [c, .tup bs]), some (.int i), some x] from rfl]
  unfold w_law_put
  have hsl := sizeLine_eq
  obtain ⟨k, rfl⟩ : ∃ k : Nat, i = ((k : Nat) : Int) := ⟨i.toNat, by omega⟩
  have e1 : (((k : Nat) : Int) + 1) = ((k + 1 : Nat) : Int) := by omega
  simp only [↓u_sRet, ↓u_sRetN, ↓u_sNext, ↓u_sBrk, ↓u_sCont, ↓u_sSeq, ↓u_sDrop, ↓u_sIf, ↓u_wNil, ↓u_wCons, ↓u_wTup, ↓u_wLst, ↓u_wTst, ↓u_wTru, ↓u_wAnd, ↓u_wOr, ↓u_wNot, ↓u_wAndV, ↓u_wOrV, ↓u_wNotV, ↓u_wIfE, ↓u_wC, ↓u_wOp, ↓u_wUn, ↓u_wCall, ↓u_wChain, ↓u_wIsi, ↓u_wPart, ↓u_wNoPart, ↓u_wSl, ↓u_slT, ↓u_slL, ↓u_wMeth, ↓u_wKGet, ↓u_wInK, ↓u_sAsg, ↓u_exbl, ↓u_exint, ↓u_exstr, ↓u_exref, ↓u_exsome, ↓u_trubl, ↓u_truint, ↓u_trunon, ↓u_trulst, ↓u_trutup, ↓oEq_ss, ↓oEq_ii, ↓oEq_bb, ↓oEq_ni, ↓oNe_ss, ↓oNe_ii, ↓oNe_bb, ↓oEq_l0, ↓oNe_l0, ↓oEq_t0, ↓oNe_t0, ↓oLt_ii, ↓oLe_ii, ↓oGt_ii, ↓oGe_ii, ↓oSub_ii, ↓oAdd_ii, ↓u_lenT, ↓u_lenL, ↓u_isnon, ↓u_ixtup0, ↓u_ixlst0, ↓u_ixtup1, ↓u_ixlst1, ↓u_ixtup2, ↓u_ixlst2, ↓u_ixtup3, ↓u_ixlst3, ↓u_ixtup4, ↓u_ixlst4, ↓u_ixtup5, ↓u_ixlst5, ↓u_v0, ↓u_s0, ↓u_v1, ↓u_s1, ↓u_v2, ↓u_s2, ↓u_v3, ↓u_s3, ↓u_v4, ↓u_s4, ↓u_v5, ↓u_s5, ↓u_v6, ↓u_s6, ↓u_v7, ↓u_s7, ↓u_v8, ↓u_s8, ↓u_v9, ↓u_s9, ↓u_v10, ↓u_s10, ↓u_v11, ↓u_s11, ↓u_v12, ↓u_s12, ↓u_v13, ↓u_s13, ↓u_v14, ↓u_s14, ↓u_v15, ↓u_s15, ↓u_v16, ↓u_s16, ↓u_v17, ↓u_s17, ↓u_v18, ↓u_s18, ↓u_v19, ↓u_s19, if_true, if_false, Bool.false_eq_true, Bool.not_true, Bool.not_false, Bool.true_and, Bool.false_and, Bool.and_true, Bool.and_false, Bool.or_true, Bool.or_false, Bool.true_or, Bool.false_or, true_and, and_true, Option.isSome_some, List.length_cons, List.length_nil, ofS_beq, String.reduceBEq, e1, cutN bs k (by omega), cutF bs (k + 1)]
  refine ⟨by omega, ?_⟩
  rw [add_tt (by simp; omega)]
  show oAdd _ _ _ _
  rw [add_tt (by simp; omega)]
  refine ⟨by omega, ?_⟩
  simpa using q
/-! ### right parts -/
theorem ga_tup {ts : List T} (hl : ts.length ≤ 10000) (h : ∀ x ∈ ts, GA x) : GA (.tup ts) :=
  ⟨rfl, fun S => by
    simp only [GT]
    exact ⟨hl, gts_of fun i t e => ⟨fun _ => (h t (List.mem_of_getElem? e)).1, (h t (List.mem_of_getElem? e)).2 S⟩⟩⟩
theorem ga_int (i : Int) : GA (.int i) := ⟨rfl, fun S => by simp only [GT]⟩
theorem ga_non : GA .non := ⟨rfl, fun S => by simp only [GT]⟩
theorem ga_str {z : Str} (h : z.length ≤ 1000) : GA (.str z) := ⟨rfl, fun S => by simpa only [GT] using h⟩
theorem ga_two {x y : T} (hx : GA x) (hy : GA y) : GA (.tup [x, y]) := ga_tup (by simp) fun t ht => by
  rcases List.mem_cons.mp ht with rfl | ht
  · exact hx
  · have : t = y := by simpa using ht
    rw [this]; exact hy
theorem tuple_l {ts : List T} {S : Sto} {R : Post} (h : ts.length ≤ sizeLine) : (oTuple [.lst ts] S R) = (R (.tup ts) S) := propext ⟨fun ⟨x, us, e, h1, _, q⟩ => by cases e; cases h1; exact q, fun q => ⟨_, ts, rfl, rfl, h, q⟩⟩
theorem pick_of {a b : Addr} {xs : List T} {S : Sto} {R : Post} (hd : Dk a b S) (hne : xs ≠ []) (hl : xs.length < 10000) (q : ∀ t S', t ∈ xs → Dk a b S' → Kp a b S S' → R t S') : sp_law_pick [.ref a, .lst xs] S R := ⟨a, b, xs, rfl, hd, hne, hl, q⟩
theorem draw_of {a b : Addr} {n : Int} {S : Sto} {R : Post} (hd : Dk a b S) (h0 : 0 < n) (h1 : n < 1073741824) (q : ∀ i S', 0 ≤ i → i < n → Dk a b S' → Kp a b S S' → R (.int i) S') : sp_law_draw [.ref a, .int n] S R := ⟨a, b, n, rfl, hd, h0, h1, q⟩
def sp_right_a : List T → Sto → Post → Prop := fun ts S R => ∃ a b n, ts = [.ref a, .str (Str.ofString "a"), .int n] ∧ Dk a b S ∧ 0 < n ∧ n < 1073741824 ∧ ∀ t S', GA t → Dk a b S' → Kp a b S S' → R t S'
theorem right_g {spr : List T → Sto → Post → Prop} {a b : Addr} {k : Str} {n : Int} {S : Sto} {R : Post} (hspr : (k = "s" ∨ k = "t") → ∀ ts S R, sp_right_a ts S R → spr ts S R) (hd : Dk a b S) (hn0 : 0 < n) (hn1 : n < 1073741824) (q : ∀ t S', GA t → Dk a b S' → Kp a b S S' → R t S') :
    w_law_right spr { nx := fun _ S' => R .non S', rt := R } (startT n_law_right [.ref a, .str k, .int n]) S := by
  rw [show startT n_law_right [.ref a, .str k, .int n] = [some (.ref a), some (.str k), some (.int n), none, none, none, none] from rfl]
  unfold w_law_right
  have hsl := sizeLine_eq
  have s2 : 0 + 1 + 1 ≤ sizeLine := by omega
  have s4 : 0 + 1 + 1 + 1 + 1 ≤ sizeLine := by omega
  have s5 : 0 + 1 + 1 + 1 + 1 + 1 ≤ sizeLine := by omega
  have s7 : 0 + 1 + 1 + 1 + 1 + 1 + 1 + 1 ≤ sizeLine := by omega
  have s8 : 0 + 1 + 1 + 1 + 1 + 1 + 1 + 1 + 1 ≤ sizeLine := by omega
  rw [u_sSeq]
  simp only [↓u_s3, ↓u_wCall, ↓u_wCons, ↓u_wNil, ↓u_v0, ↓u_wLst, ↓u_wC]
  refine ⟨s7, pick_of hd (by simp) (by simp) fun t1 S1 ht1 d1 k1 => ?_⟩
  obtain ⟨z, rfl, hz⟩ : ∃ z, t1 = .str z ∧ z.length ≤ 1000 := by
    simp at ht1
    rcases ht1 with rfl | rfl | rfl | rfl | rfl | rfl | rfl <;> exact ⟨_, rfl, by decide +kernel⟩
  clear ht1
  show sSeq _ _ _ _ _
  rw [u_sSeq]
  simp only [↓u_sPar, ↓u_wCall, ↓u_wCons, ↓u_wNil, ↓u_v0, ↓u_wLst, ↓u_wC]
  refine ⟨s5, pick_of d1 (by simp) (by simp) fun t2 S2 ht2 d2 k2 => ?_⟩
  obtain ⟨i, rfl⟩ : ∃ i, t2 = .int i := by
    simp at ht2
    rcases ht2 with rfl | rfl | rfl | rfl | rfl <;> exact ⟨_, rfl⟩
  clear ht2
  refine ⟨s4, pick_of d2 (by simp) (by simp) fun t3 S3 ht3 d3 k3 => ?_⟩
  obtain ⟨j, rfl⟩ : ∃ i, t3 = .int i := by
    simp at ht3
    rcases ht3 with rfl | rfl | rfl | rfl <;> exact ⟨_, rfl⟩
  clear ht3
  have k4 : Kp a b S S3 := (k1.trans k2).trans k3
  rw [show List.set (List.set [some (T.ref a), some (T.str k), some (T.int n), some (T.str z), none, none, none] 4 (some (T.int i))) 5 (some (T.int j)) = [some (T.ref a), some (T.str k), some (T.int n), some (T.str z), some (T.int i), some (T.int j), none] from rfl]
  show sSeq _ _ _ _ _
  clear k1 k2 k3 d1 d2 hd
  by_cases e : k = "v"
  · subst e
    simp only [↓u_sRet, ↓u_sRetN, ↓u_sNext, ↓u_sBrk, ↓u_sCont, ↓u_sSeq, ↓u_sDrop, ↓u_sIf, ↓u_wNil, ↓u_wCons, ↓u_wTup, ↓u_wLst, ↓u_wTst, ↓u_wTru, ↓u_wAnd, ↓u_wOr, ↓u_wNot, ↓u_wAndV, ↓u_wOrV, ↓u_wNotV, ↓u_wIfE, ↓u_wC, ↓u_wOp, ↓u_wUn, ↓u_wCall, ↓u_wChain, ↓u_wIsi, ↓u_wPart, ↓u_wNoPart, ↓u_wSl, ↓u_slT, ↓u_slL, ↓u_wMeth, ↓u_wKGet, ↓u_wInK, ↓u_sAsg, ↓u_exbl, ↓u_exint, ↓u_exstr, ↓u_exref, ↓u_exsome, ↓u_trubl, ↓u_truint, ↓u_trunon, ↓u_trulst, ↓u_trutup, ↓oEq_ss, ↓oEq_ii, ↓oEq_bb, ↓oEq_ni, ↓oNe_ss, ↓oNe_ii, ↓oNe_bb, ↓oEq_l0, ↓oNe_l0, ↓oEq_t0, ↓oNe_t0, ↓oLt_ii, ↓oLe_ii, ↓oGt_ii, ↓oGe_ii, ↓oSub_ii, ↓oAdd_ii, ↓u_lenT, ↓u_lenL, ↓u_isnon, ↓u_ixtup0, ↓u_ixlst0, ↓u_ixtup1, ↓u_ixlst1, ↓u_ixtup2, ↓u_ixlst2, ↓u_ixtup3, ↓u_ixlst3, ↓u_ixtup4, ↓u_ixlst4, ↓u_ixtup5, ↓u_ixlst5, ↓u_v0, ↓u_s0, ↓u_v1, ↓u_s1, ↓u_v2, ↓u_s2, ↓u_v3, ↓u_s3, ↓u_v4, ↓u_s4, ↓u_v5, ↓u_s5, ↓u_v6, ↓u_s6, ↓u_v7, ↓u_s7, ↓u_v8, ↓u_s8, ↓u_v9, ↓u_s9, ↓u_v10, ↓u_s10, ↓u_v11, ↓u_s11, ↓u_v12, ↓u_s12, ↓u_v13, ↓u_s13, ↓u_v14, ↓u_s14, ↓u_v15, ↓u_s15, ↓u_v16, ↓u_s16, ↓u_v17, ↓u_s17, ↓u_v18, ↓u_s18, ↓u_v19, ↓u_s19, if_true, if_false, Bool.false_eq_true, Bool.not_true, Bool.not_false, Bool.true_and, Bool.false_and, Bool.and_true, Bool.and_false, Bool.or_true, Bool.or_false, Bool.true_or, Bool.false_or, true_and, and_true, Option.isSome_some, List.length_cons, List.length_nil, ofS_beq, String.reduceBEq, oIn_s2, s2]
    exact q _ _ (ga_int i) d3 k4
  by_cases e : k = "w"
  · subst e
    simp only [↓u_sRet, ↓u_sRetN, ↓u_sNext, ↓u_sBrk, ↓u_sCont, ↓u_sSeq, ↓u_sDrop, ↓u_sIf, ↓u_wNil, ↓u_wCons, ↓u_wTup, ↓u_wLst, ↓u_wTst, ↓u_wTru, ↓u_wAnd, ↓u_wOr, ↓u_wNot, ↓u_wAndV, ↓u_wOrV, ↓u_wNotV, ↓u_wIfE, ↓u_wC, ↓u_wOp, ↓u_wUn, ↓u_wCall, ↓u_wChain, ↓u_wIsi, ↓u_wPart, ↓u_wNoPart, ↓u_wSl, ↓u_slT, ↓u_slL, ↓u_wMeth, ↓u_wKGet, ↓u_wInK, ↓u_sAsg, ↓u_exbl, ↓u_exint, ↓u_exstr, ↓u_exref, ↓u_exsome, ↓u_trubl, ↓u_truint, ↓u_trunon, ↓u_trulst, ↓u_trutup, ↓oEq_ss, ↓oEq_ii, ↓oEq_bb, ↓oEq_ni, ↓oNe_ss, ↓oNe_ii, ↓oNe_bb, ↓oEq_l0, ↓oNe_l0, ↓oEq_t0, ↓oNe_t0, ↓oLt_ii, ↓oLe_ii, ↓oGt_ii, ↓oGe_ii, ↓oSub_ii, ↓oAdd_ii, ↓u_lenT, ↓u_lenL, ↓u_isnon, ↓u_ixtup0, ↓u_ixlst0, ↓u_ixtup1, ↓u_ixlst1, ↓u_ixtup2, ↓u_ixlst2, ↓u_ixtup3, ↓u_ixlst3, ↓u_ixtup4, ↓u_ixlst4, ↓u_ixtup5, ↓u_ixlst5, ↓u_v0, ↓u_s0, ↓u_v1, ↓u_s1, ↓u_v2, ↓u_s2, ↓u_v3, ↓u_s3, ↓u_v4, ↓u_s4, ↓u_v5, ↓u_s5, ↓u_v6, ↓u_s6, ↓u_v7, ↓u_s7, ↓u_v8, ↓u_s8, ↓u_v9, ↓u_s9, ↓u_v10, ↓u_s10, ↓u_v11, ↓u_s11, ↓u_v12, ↓u_s12, ↓u_v13, ↓u_s13, ↓u_v14, ↓u_s14, ↓u_v15, ↓u_s15, ↓u_v16, ↓u_s16, ↓u_v17, ↓u_s17, ↓u_v18, ↓u_s18, ↓u_v19, ↓u_s19, if_true, if_false, Bool.false_eq_true, Bool.not_true, Bool.not_false, Bool.true_and, Bool.false_and, Bool.and_true, Bool.and_false, Bool.or_true, Bool.or_false, Bool.true_or, Bool.false_or, true_and, and_true, Option.isSome_some, List.length_cons, List.length_nil, ofS_beq, String.reduceBEq, oIn_s2, s2]
    refine draw_of d3 (by decide) (by decide) fun r S4 _ _ d4 k5 => ?_
    simp only [↓u_sRet, ↓u_sRetN, ↓u_sNext, ↓u_sBrk, ↓u_sCont, ↓u_sSeq, ↓u_sDrop, ↓u_sIf, ↓u_wNil, ↓u_wCons, ↓u_wTup, ↓u_wLst, ↓u_wTst, ↓u_wTru, ↓u_wAnd, ↓u_wOr, ↓u_wNot, ↓u_wAndV, ↓u_wOrV, ↓u_wNotV, ↓u_wIfE, ↓u_wC, ↓u_wOp, ↓u_wUn, ↓u_wCall, ↓u_wChain, ↓u_wIsi, ↓u_wPart, ↓u_wNoPart, ↓u_wSl, ↓u_slT, ↓u_slL, ↓u_wMeth, ↓u_wKGet, ↓u_wInK, ↓u_sAsg, ↓u_exbl, ↓u_exint, ↓u_exstr, ↓u_exref, ↓u_exsome, ↓u_trubl, ↓u_truint, ↓u_trunon, ↓u_trulst, ↓u_trutup, ↓oEq_ss, ↓oEq_ii, ↓oEq_bb, ↓oEq_ni, ↓oNe_ss, ↓oNe_ii, ↓oNe_bb, ↓oEq_l0, ↓oNe_l0, ↓oEq_t0, ↓oNe_t0, ↓oLt_ii, ↓oLe_ii, ↓oGt_ii, ↓oGe_ii, ↓oSub_ii, ↓oAdd_ii, ↓u_lenT, ↓u_lenL, ↓u_isnon, ↓u_ixtup0, ↓u_ixlst0, ↓u_ixtup1, ↓u_ixlst1, ↓u_ixtup2, ↓u_ixlst2, ↓u_ixtup3, ↓u_ixlst3, ↓u_ixtup4, ↓u_ixlst4, ↓u_ixtup5, ↓u_ixlst5, ↓u_v0, ↓u_s0, ↓u_v1, ↓u_s1, ↓u_v2, ↓u_s2, ↓u_v3, ↓u_s3, ↓u_v4, ↓u_s4, ↓u_v5, ↓u_s5, ↓u_v6, ↓u_s6, ↓u_v7, ↓u_s7, ↓u_v8, ↓u_s8, ↓u_v9, ↓u_s9, ↓u_v10, ↓u_s10, ↓u_v11, ↓u_s11, ↓u_v12, ↓u_s12, ↓u_v13, ↓u_s13, ↓u_v14, ↓u_s14, ↓u_v15, ↓u_s15, ↓u_v16, ↓u_s16, ↓u_v17, ↓u_s17, ↓u_v18, ↓u_s18, ↓u_v19, ↓u_s19, if_true, if_false, Bool.false_eq_true, Bool.not_true, Bool.not_false, Bool.true_and, Bool.false_and, Bool.and_true, Bool.and_false, Bool.or_true, Bool.or_false, Bool.true_or, Bool.false_or, true_and, and_true, Option.isSome_some, List.length_cons, List.length_nil, ofS_beq, String.reduceBEq]
    split
    · exact q _ _ ga_non d4 (k4.trans k5)
    · exact q _ _ (ga_int i) d4 (k4.trans k5)
  have ga_v : GA (.tup [.str (Str.ofString "var"), .int i]) := ga_two (ga_str (by decide +kernel)) (ga_int i)
  by_cases e : k = "a"
  · subst e
    simp only [↓u_sRet, ↓u_sRetN, ↓u_sNext, ↓u_sBrk, ↓u_sCont, ↓u_sSeq, ↓u_sDrop, ↓u_sIf, ↓u_wNil, ↓u_wCons, ↓u_wTup, ↓u_wLst, ↓u_wTst, ↓u_wTru, ↓u_wAnd, ↓u_wOr, ↓u_wNot, ↓u_wAndV, ↓u_wOrV, ↓u_wNotV, ↓u_wIfE, ↓u_wC, ↓u_wOp, ↓u_wUn, ↓u_wCall, ↓u_wChain, ↓u_wIsi, ↓u_wPart, ↓u_wNoPart, ↓u_wSl, ↓u_slT, ↓u_slL, ↓u_wMeth, ↓u_wKGet, ↓u_wInK, ↓u_sAsg, ↓u_exbl, ↓u_exint, ↓u_exstr, ↓u_exref, ↓u_exsome, ↓u_trubl, ↓u_truint, ↓u_trunon, ↓u_trulst, ↓u_trutup, ↓oEq_ss, ↓oEq_ii, ↓oEq_bb, ↓oEq_ni, ↓oNe_ss, ↓oNe_ii, ↓oNe_bb, ↓oEq_l0, ↓oNe_l0, ↓oEq_t0, ↓oNe_t0, ↓oLt_ii, ↓oLe_ii, ↓oGt_ii, ↓oGe_ii, ↓oSub_ii, ↓oAdd_ii, ↓u_lenT, ↓u_lenL, ↓u_isnon, ↓u_ixtup0, ↓u_ixlst0, ↓u_ixtup1, ↓u_ixlst1, ↓u_ixtup2, ↓u_ixlst2, ↓u_ixtup3, ↓u_ixlst3, ↓u_ixtup4, ↓u_ixlst4, ↓u_ixtup5, ↓u_ixlst5, ↓u_v0, ↓u_s0, ↓u_v1, ↓u_s1, ↓u_v2, ↓u_s2, ↓u_v3, ↓u_s3, ↓u_v4, ↓u_s4, ↓u_v5, ↓u_s5, ↓u_v6, ↓u_s6, ↓u_v7, ↓u_s7, ↓u_v8, ↓u_s8, ↓u_v9, ↓u_s9, ↓u_v10, ↓u_s10, ↓u_v11, ↓u_s11, ↓u_v12, ↓u_s12, ↓u_v13, ↓u_s13, ↓u_v14, ↓u_s14, ↓u_v15, ↓u_s15, ↓u_v16, ↓u_s16, ↓u_v17, ↓u_s17, ↓u_v18, ↓u_s18, ↓u_v19, ↓u_s19, if_true, if_false, Bool.false_eq_true, Bool.not_true, Bool.not_false, Bool.true_and, Bool.false_and, Bool.and_true, Bool.and_false, Bool.or_true, Bool.or_false, Bool.true_or, Bool.false_or, true_and, and_true, Option.isSome_some, List.length_cons, List.length_nil, ofS_beq, String.reduceBEq, oIn_s2, s2]
    refine pick_of d3 (by simp) (by simp) fun t S4 ht d4 k5 => q _ _ ?_ d4 (k4.trans k5)
    simp at ht
    rcases ht with rfl | rfl
    · exact ga_int j
    · exact ga_v
  by_cases e : k = "r"
  · subst e
    simp only [↓u_sRet, ↓u_sRetN, ↓u_sNext, ↓u_sBrk, ↓u_sCont, ↓u_sSeq, ↓u_sDrop, ↓u_sIf, ↓u_wNil, ↓u_wCons, ↓u_wTup, ↓u_wLst, ↓u_wTst, ↓u_wTru, ↓u_wAnd, ↓u_wOr, ↓u_wNot, ↓u_wAndV, ↓u_wOrV, ↓u_wNotV, ↓u_wIfE, ↓u_wC, ↓u_wOp, ↓u_wUn, ↓u_wCall, ↓u_wChain, ↓u_wIsi, ↓u_wPart, ↓u_wNoPart, ↓u_wSl, ↓u_slT, ↓u_slL, ↓u_wMeth, ↓u_wKGet, ↓u_wInK, ↓u_sAsg, ↓u_exbl, ↓u_exint, ↓u_exstr, ↓u_exref, ↓u_exsome, ↓u_trubl, ↓u_truint, ↓u_trunon, ↓u_trulst, ↓u_trutup, ↓oEq_ss, ↓oEq_ii, ↓oEq_bb, ↓oEq_ni, ↓oNe_ss, ↓oNe_ii, ↓oNe_bb, ↓oEq_l0, ↓oNe_l0, ↓oEq_t0, ↓oNe_t0, ↓oLt_ii, ↓oLe_ii, ↓oGt_ii, ↓oGe_ii, ↓oSub_ii, ↓oAdd_ii, ↓u_lenT, ↓u_lenL, ↓u_isnon, ↓u_ixtup0, ↓u_ixlst0, ↓u_ixtup1, ↓u_ixlst1, ↓u_ixtup2, ↓u_ixlst2, ↓u_ixtup3, ↓u_ixlst3, ↓u_ixtup4, ↓u_ixlst4, ↓u_ixtup5, ↓u_ixlst5, ↓u_v0, ↓u_s0, ↓u_v1, ↓u_s1, ↓u_v2, ↓u_s2, ↓u_v3, ↓u_s3, ↓u_v4, ↓u_s4, ↓u_v5, ↓u_s5, ↓u_v6, ↓u_s6, ↓u_v7, ↓u_s7, ↓u_v8, ↓u_s8, ↓u_v9, ↓u_s9, ↓u_v10, ↓u_s10, ↓u_v11, ↓u_s11, ↓u_v12, ↓u_s12, ↓u_v13, ↓u_s13, ↓u_v14, ↓u_s14, ↓u_v15, ↓u_s15, ↓u_v16, ↓u_s16, ↓u_v17, ↓u_s17, ↓u_v18, ↓u_s18, ↓u_v19, ↓u_s19, if_true, if_false, Bool.false_eq_true, Bool.not_true, Bool.not_false, Bool.true_and, Bool.false_and, Bool.and_true, Bool.and_false, Bool.or_true, Bool.or_false, Bool.true_or, Bool.false_or, true_and, and_true, Option.isSome_some, List.length_cons, List.length_nil, ofS_beq, String.reduceBEq, oIn_s2, s2]
    refine draw_of d3 (by decide) (by decide) fun r S4 _ _ d4 k5 => ?_
    simp only [↓u_sRet, ↓u_sRetN, ↓u_sNext, ↓u_sBrk, ↓u_sCont, ↓u_sSeq, ↓u_sDrop, ↓u_sIf, ↓u_wNil, ↓u_wCons, ↓u_wTup, ↓u_wLst, ↓u_wTst, ↓u_wTru, ↓u_wAnd, ↓u_wOr, ↓u_wNot, ↓u_wAndV, ↓u_wOrV, ↓u_wNotV, ↓u_wIfE, ↓u_wC, ↓u_wOp, ↓u_wUn, ↓u_wCall, ↓u_wChain, ↓u_wIsi, ↓u_wPart, ↓u_wNoPart, ↓u_wSl, ↓u_slT, ↓u_slL, ↓u_wMeth, ↓u_wKGet, ↓u_wInK, ↓u_sAsg, ↓u_exbl, ↓u_exint, ↓u_exstr, ↓u_exref, ↓u_exsome, ↓u_trubl, ↓u_truint, ↓u_trunon, ↓u_trulst, ↓u_trutup, ↓oEq_ss, ↓oEq_ii, ↓oEq_bb, ↓oEq_ni, ↓oNe_ss, ↓oNe_ii, ↓oNe_bb, ↓oEq_l0, ↓oNe_l0, ↓oEq_t0, ↓oNe_t0, ↓oLt_ii, ↓oLe_ii, ↓oGt_ii, ↓oGe_ii, ↓oSub_ii, ↓oAdd_ii, ↓u_lenT, ↓u_lenL, ↓u_isnon, ↓u_ixtup0, ↓u_ixlst0, ↓u_ixtup1, ↓u_ixlst1, ↓u_ixtup2, ↓u_ixlst2, ↓u_ixtup3, ↓u_ixlst3, ↓u_ixtup4, ↓u_ixlst4, ↓u_ixtup5, ↓u_ixlst5, ↓u_v0, ↓u_s0, ↓u_v1, ↓u_s1, ↓u_v2, ↓u_s2, ↓u_v3, ↓u_s3, ↓u_v4, ↓u_s4, ↓u_v5, ↓u_s5, ↓u_v6, ↓u_s6, ↓u_v7, ↓u_s7, ↓u_v8, ↓u_s8, ↓u_v9, ↓u_s9, ↓u_v10, ↓u_s10, ↓u_v11, ↓u_s11, ↓u_v12, ↓u_s12, ↓u_v13, ↓u_s13, ↓u_v14, ↓u_s14, ↓u_v15, ↓u_s15, ↓u_v16, ↓u_s16, ↓u_v17, ↓u_s17, ↓u_v18, ↓u_s18, ↓u_v19, ↓u_s19, if_true, if_false, Bool.false_eq_true, Bool.not_true, Bool.not_false, Bool.true_and, Bool.false_and, Bool.and_true, Bool.and_false, Bool.or_true, Bool.or_false, Bool.true_or, Bool.false_or, true_and, and_true, Option.isSome_some, List.length_cons, List.length_nil, ofS_beq, String.reduceBEq, s2]
    split
    · exact q _ _ ga_non d4 (k4.trans k5)
    · refine pick_of d4 (by simp) (by simp) fun t S5 ht d5 k6 => q _ _ ?_ d5 ((k4.trans k5).trans k6)
      simp at ht
      rcases ht with rfl | rfl
      · exact ga_int j
      · exact ga_v
  by_cases e : k = "n"
  · subst e
    simp only [↓u_sRet, ↓u_sRetN, ↓u_sNext, ↓u_sBrk, ↓u_sCont, ↓u_sSeq, ↓u_sDrop, ↓u_sIf, ↓u_wNil, ↓u_wCons, ↓u_wTup, ↓u_wLst, ↓u_wTst, ↓u_wTru, ↓u_wAnd, ↓u_wOr, ↓u_wNot, ↓u_wAndV, ↓u_wOrV, ↓u_wNotV, ↓u_wIfE, ↓u_wC, ↓u_wOp, ↓u_wUn, ↓u_wCall, ↓u_wChain, ↓u_wIsi, ↓u_wPart, ↓u_wNoPart, ↓u_wSl, ↓u_slT, ↓u_slL, ↓u_wMeth, ↓u_wKGet, ↓u_wInK, ↓u_sAsg, ↓u_exbl, ↓u_exint, ↓u_exstr, ↓u_exref, ↓u_exsome, ↓u_trubl, ↓u_truint, ↓u_trunon, ↓u_trulst, ↓u_trutup, ↓oEq_ss, ↓oEq_ii, ↓oEq_bb, ↓oEq_ni, ↓oNe_ss, ↓oNe_ii, ↓oNe_bb, ↓oEq_l0, ↓oNe_l0, ↓oEq_t0, ↓oNe_t0, ↓oLt_ii, ↓oLe_ii, ↓oGt_ii, ↓oGe_ii, ↓oSub_ii, ↓oAdd_ii, ↓u_lenT, ↓u_lenL, ↓u_isnon, ↓u_ixtup0, ↓u_ixlst0, ↓u_ixtup1, ↓u_ixlst1, ↓u_ixtup2, ↓u_ixlst2, ↓u_ixtup3, ↓u_ixlst3, ↓u_ixtup4, ↓u_ixlst4, ↓u_ixtup5, ↓u_ixlst5, ↓u_v0, ↓u_s0, ↓u_v1, ↓u_s1, ↓u_v2, ↓u_s2, ↓u_v3, ↓u_s3, ↓u_v4, ↓u_s4, ↓u_v5, ↓u_s5, ↓u_v6, ↓u_s6, ↓u_v7, ↓u_s7, ↓u_v8, ↓u_s8, ↓u_v9, ↓u_s9, ↓u_v10, ↓u_s10, ↓u_v11, ↓u_s11, ↓u_v12, ↓u_s12, ↓u_v13, ↓u_s13, ↓u_v14, ↓u_s14, ↓u_v15, ↓u_s15, ↓u_v16, ↓u_s16, ↓u_v17, ↓u_s17, ↓u_v18, ↓u_s18, ↓u_v19, ↓u_s19, if_true, if_false, Bool.false_eq_true, Bool.not_true, Bool.not_false, Bool.true_and, Bool.false_and, Bool.and_true, Bool.and_false, Bool.or_true, Bool.or_false, Bool.true_or, Bool.false_or, true_and, and_true, Option.isSome_some, List.length_cons, List.length_nil, ofS_beq, String.reduceBEq, oIn_s2, s2]
    exact q _ _ (ga_str hz) d3 k4
  by_cases e : k = "f"
  · subst e
    simp only [↓u_sRet, ↓u_sRetN, ↓u_sNext, ↓u_sBrk, ↓u_sCont, ↓u_sSeq, ↓u_sDrop, ↓u_sIf, ↓u_wNil, ↓u_wCons, ↓u_wTup, ↓u_wLst, ↓u_wTst, ↓u_wTru, ↓u_wAnd, ↓u_wOr, ↓u_wNot, ↓u_wAndV, ↓u_wOrV, ↓u_wNotV, ↓u_wIfE, ↓u_wC, ↓u_wOp, ↓u_wUn, ↓u_wCall, ↓u_wChain, ↓u_wIsi, ↓u_wPart, ↓u_wNoPart, ↓u_wSl, ↓u_slT, ↓u_slL, ↓u_wMeth, ↓u_wKGet, ↓u_wInK, ↓u_sAsg, ↓u_exbl, ↓u_exint, ↓u_exstr, ↓u_exref, ↓u_exsome, ↓u_trubl, ↓u_truint, ↓u_trunon, ↓u_trulst, ↓u_trutup, ↓oEq_ss, ↓oEq_ii, ↓oEq_bb, ↓oEq_ni, ↓oNe_ss, ↓oNe_ii, ↓oNe_bb, ↓oEq_l0, ↓oNe_l0, ↓oEq_t0, ↓oNe_t0, ↓oLt_ii, ↓oLe_ii, ↓oGt_ii, ↓oGe_ii, ↓oSub_ii, ↓oAdd_ii, ↓u_lenT, ↓u_lenL, ↓u_isnon, ↓u_ixtup0, ↓u_ixlst0, ↓u_ixtup1, ↓u_ixlst1, ↓u_ixtup2, ↓u_ixlst2, ↓u_ixtup3, ↓u_ixlst3, ↓u_ixtup4, ↓u_ixlst4, ↓u_ixtup5, ↓u_ixlst5, ↓u_v0, ↓u_s0, ↓u_v1, ↓u_s1, ↓u_v2, ↓u_s2, ↓u_v3, ↓u_s3, ↓u_v4, ↓u_s4, ↓u_v5, ↓u_s5, ↓u_v6, ↓u_s6, ↓u_v7, ↓u_s7, ↓u_v8, ↓u_s8, ↓u_v9, ↓u_s9, ↓u_v10, ↓u_s10, ↓u_v11, ↓u_s11, ↓u_v12, ↓u_s12, ↓u_v13, ↓u_s13, ↓u_v14, ↓u_s14, ↓u_v15, ↓u_s15, ↓u_v16, ↓u_s16, ↓u_v17, ↓u_s17, ↓u_v18, ↓u_s18, ↓u_v19, ↓u_s19, if_true, if_false, Bool.false_eq_true, Bool.not_true, Bool.not_false, Bool.true_and, Bool.false_and, Bool.and_true, Bool.and_false, Bool.or_true, Bool.or_false, Bool.true_or, Bool.false_or, true_and, and_true, Option.isSome_some, List.length_cons, List.length_nil, ofS_beq, String.reduceBEq, oIn_s2, s2]
    refine draw_of d3 (by decide) (by decide) fun r S4 _ _ d4 k5 => ?_
    simp only [↓u_sRet, ↓u_sRetN, ↓u_sNext, ↓u_sBrk, ↓u_sCont, ↓u_sSeq, ↓u_sDrop, ↓u_sIf, ↓u_wNil, ↓u_wCons, ↓u_wTup, ↓u_wLst, ↓u_wTst, ↓u_wTru, ↓u_wAnd, ↓u_wOr, ↓u_wNot, ↓u_wAndV, ↓u_wOrV, ↓u_wNotV, ↓u_wIfE, ↓u_wC, ↓u_wOp, ↓u_wUn, ↓u_wCall, ↓u_wChain, ↓u_wIsi, ↓u_wPart, ↓u_wNoPart, ↓u_wSl, ↓u_slT, ↓u_slL, ↓u_wMeth, ↓u_wKGet, ↓u_wInK, ↓u_sAsg, ↓u_exbl, ↓u_exint, ↓u_exstr, ↓u_exref, ↓u_exsome, ↓u_trubl, ↓u_truint, ↓u_trunon, ↓u_trulst, ↓u_trutup, ↓oEq_ss, ↓oEq_ii, ↓oEq_bb, ↓oEq_ni, ↓oNe_ss, ↓oNe_ii, ↓oNe_bb, ↓oEq_l0, ↓oNe_l0, ↓oEq_t0, ↓oNe_t0, ↓oLt_ii, ↓oLe_ii, ↓oGt_ii, ↓oGe_ii, ↓oSub_ii, ↓oAdd_ii, ↓u_lenT, ↓u_lenL, ↓u_isnon, ↓u_ixtup0, ↓u_ixlst0, ↓u_ixtup1, ↓u_ixlst1, ↓u_ixtup2, ↓u_ixlst2, ↓u_ixtup3, ↓u_ixlst3, ↓u_ixtup4, ↓u_ixlst4, ↓u_ixtup5, ↓u_ixlst5, ↓u_v0, ↓u_s0, ↓u_v1, ↓u_s1, ↓u_v2, ↓u_s2, ↓u_v3, ↓u_s3, ↓u_v4, ↓u_s4, ↓u_v5, ↓u_s5, ↓u_v6, ↓u_s6, ↓u_v7, ↓u_s7, ↓u_v8, ↓u_s8, ↓u_v9, ↓u_s9, ↓u_v10, ↓u_s10, ↓u_v11, ↓u_s11, ↓u_v12, ↓u_s12, ↓u_v13, ↓u_s13, ↓u_v14, ↓u_s14, ↓u_v15, ↓u_s15, ↓u_v16, ↓u_s16, ↓u_v17, ↓u_s17, ↓u_v18, ↓u_s18, ↓u_v19, ↓u_s19, if_true, if_false, Bool.false_eq_true, Bool.not_true, Bool.not_false, Bool.true_and, Bool.false_and, Bool.and_true, Bool.and_false, Bool.or_true, Bool.or_false, Bool.true_or, Bool.false_or, true_and, and_true, Option.isSome_some, List.length_cons, List.length_nil, ofS_beq, String.reduceBEq]
    split
    · exact q _ _ (ga_str hz) d4 (k4.trans k5)
    · exact q _ _ (ga_str (by decide +kernel)) d4 (k4.trans k5)
  by_cases e : k = "o"
  · subst e
    simp only [↓u_sRet, ↓u_sRetN, ↓u_sNext, ↓u_sBrk, ↓u_sCont, ↓u_sSeq, ↓u_sDrop, ↓u_sIf, ↓u_wNil, ↓u_wCons, ↓u_wTup, ↓u_wLst, ↓u_wTst, ↓u_wTru, ↓u_wAnd, ↓u_wOr, ↓u_wNot, ↓u_wAndV, ↓u_wOrV, ↓u_wNotV, ↓u_wIfE, ↓u_wC, ↓u_wOp, ↓u_wUn, ↓u_wCall, ↓u_wChain, ↓u_wIsi, ↓u_wPart, ↓u_wNoPart, ↓u_wSl, ↓u_slT, ↓u_slL, ↓u_wMeth, ↓u_wKGet, ↓u_wInK, ↓u_sAsg, ↓u_exbl, ↓u_exint, ↓u_exstr, ↓u_exref, ↓u_exsome, ↓u_trubl, ↓u_truint, ↓u_trunon, ↓u_trulst, ↓u_trutup, ↓oEq_ss, ↓oEq_ii, ↓oEq_bb, ↓oEq_ni, ↓oNe_ss, ↓oNe_ii, ↓oNe_bb, ↓oEq_l0, ↓oNe_l0, ↓oEq_t0, ↓oNe_t0, ↓oLt_ii, ↓oLe_ii, ↓oGt_ii, ↓oGe_ii, ↓oSub_ii, ↓oAdd_ii, ↓u_lenT, ↓u_lenL, ↓u_isnon, ↓u_ixtup0, ↓u_ixlst0, ↓u_ixtup1, ↓u_ixlst1, ↓u_ixtup2, ↓u_ixlst2, ↓u_ixtup3, ↓u_ixlst3, ↓u_ixtup4, ↓u_ixlst4, ↓u_ixtup5, ↓u_ixlst5, ↓u_v0, ↓u_s0, ↓u_v1, ↓u_s1, ↓u_v2, ↓u_s2, ↓u_v3, ↓u_s3, ↓u_v4, ↓u_s4, ↓u_v5, ↓u_s5, ↓u_v6, ↓u_s6, ↓u_v7, ↓u_s7, ↓u_v8, ↓u_s8, ↓u_v9, ↓u_s9, ↓u_v10, ↓u_s10, ↓u_v11, ↓u_s11, ↓u_v12, ↓u_s12, ↓u_v13, ↓u_s13, ↓u_v14, ↓u_s14, ↓u_v15, ↓u_s15, ↓u_v16, ↓u_s16, ↓u_v17, ↓u_s17, ↓u_v18, ↓u_s18, ↓u_v19, ↓u_s19, if_true, if_false, Bool.false_eq_true, Bool.not_true, Bool.not_false, Bool.true_and, Bool.false_and, Bool.and_true, Bool.and_false, Bool.or_true, Bool.or_false, Bool.true_or, Bool.false_or, true_and, and_true, Option.isSome_some, List.length_cons, List.length_nil, ofS_beq, String.reduceBEq, oIn_s2, s2, s8]
    refine pick_of d3 (by simp) (by simp) fun t S4 ht d4 k5 => q _ _ ?_ d4 (k4.trans k5)
    simp at ht
    rcases ht with rfl | rfl | rfl | rfl | rfl | rfl | rfl | rfl <;> exact ga_str (by decide +kernel)
  by_cases e : k = "c"
  · subst e
    simp only [↓u_sRet, ↓u_sRetN, ↓u_sNext, ↓u_sBrk, ↓u_sCont, ↓u_sSeq, ↓u_sDrop, ↓u_sIf, ↓u_wNil, ↓u_wCons, ↓u_wTup, ↓u_wLst, ↓u_wTst, ↓u_wTru, ↓u_wAnd, ↓u_wOr, ↓u_wNot, ↓u_wAndV, ↓u_wOrV, ↓u_wNotV, ↓u_wIfE, ↓u_wC, ↓u_wOp, ↓u_wUn, ↓u_wCall, ↓u_wChain, ↓u_wIsi, ↓u_wPart, ↓u_wNoPart, ↓u_wSl, ↓u_slT, ↓u_slL, ↓u_wMeth, ↓u_wKGet, ↓u_wInK, ↓u_sAsg, ↓u_exbl, ↓u_exint, ↓u_exstr, ↓u_exref, ↓u_exsome, ↓u_trubl, ↓u_truint, ↓u_trunon, ↓u_trulst, ↓u_trutup, ↓oEq_ss, ↓oEq_ii, ↓oEq_bb, ↓oEq_ni, ↓oNe_ss, ↓oNe_ii, ↓oNe_bb, ↓oEq_l0, ↓oNe_l0, ↓oEq_t0, ↓oNe_t0, ↓oLt_ii, ↓oLe_ii, ↓oGt_ii, ↓oGe_ii, ↓oSub_ii, ↓oAdd_ii, ↓u_lenT, ↓u_lenL, ↓u_isnon, ↓u_ixtup0, ↓u_ixlst0, ↓u_ixtup1, ↓u_ixlst1, ↓u_ixtup2, ↓u_ixlst2, ↓u_ixtup3, ↓u_ixlst3, ↓u_ixtup4, ↓u_ixlst4, ↓u_ixtup5, ↓u_ixlst5, ↓u_v0, ↓u_s0, ↓u_v1, ↓u_s1, ↓u_v2, ↓u_s2, ↓u_v3, ↓u_s3, ↓u_v4, ↓u_s4, ↓u_v5, ↓u_s5, ↓u_v6, ↓u_s6, ↓u_v7, ↓u_s7, ↓u_v8, ↓u_s8, ↓u_v9, ↓u_s9, ↓u_v10, ↓u_s10, ↓u_v11, ↓u_s11, ↓u_v12, ↓u_s12, ↓u_v13, ↓u_s13, ↓u_v14, ↓u_s14, ↓u_v15, ↓u_s15, ↓u_v16, ↓u_s16, ↓u_v17, ↓u_s17, ↓u_v18, ↓u_s18, ↓u_v19, ↓u_s19, if_true, if_false, Bool.false_eq_true, Bool.not_true, Bool.not_false, Bool.true_and, Bool.false_and, Bool.and_true, Bool.and_false, Bool.or_true, Bool.or_false, Bool.true_or, Bool.false_or, true_and, and_true, Option.isSome_some, List.length_cons, List.length_nil, ofS_beq, String.reduceBEq, oIn_s2, s2, s4]
    refine pick_of d3 (by simp) (by simp) fun t S4 ht d4 k5 => q _ _ ?_ d4 (k4.trans k5)
    simp at ht
    rcases ht with rfl | rfl | rfl | rfl
    · exact ga_int j
    · exact ga_two (ga_str (by decide +kernel)) (ga_str hz)
    · exact ga_two (ga_str (by decide +kernel)) (ga_str (by decide +kernel))
    · exact ga_int j
  have rows : ∀ (m : Int), 0 < m → m < 100 → (k = "s" ∨ k = "t") → sp_law_draw [.ref a, .int m] S3 (fun t S1 => ∃ j_1 : Int, t = .int j_1 ∧ -(2 ^ 62) ≤ j_1 ∧ j_1 < 2 ^ 62 ∧ (rngT 0 j_1.toNat).length ≤ sizeLine ∧
      lcT (.nm 6) wYes (wCall spr (wCons (wVar 0) (wCons (wC (.str (Str.ofString "a"))) (wCons (wVar 2) wNil)))) (wipeT [some (T.ref a), some (T.str k), some (T.int n), some (T.str z), some (T.int i), some (T.int j), none] [6]) (rngT 0 j_1.toNat) [] S1 fun acc S2 => oTuple [.lst acc] S2 R) := by
    intro m hm0 hm1 hk
    refine draw_of d3 hm0 (by omega) fun r S4 r0 r1 d4 k5 => ⟨r, rfl, by omega, by omega, by rw [rng_len]; omega, ?_⟩
    refine lc_inv (fun acc S' => (∀ x ∈ acc, GA x) ∧ Dk a b S' ∧ Kp a b S S') ⟨by simp, d4, k4.trans k5⟩ ?_ ?_
    · rintro t ht acc S' ⟨h1, h2, h3⟩
      refine ⟨_, rfl, fun R' hR' => ?_⟩
      show wCall spr _ [some (T.ref a), some (T.str k), some (T.int n), some (T.str z), some (T.int i), some (T.int j), some t] S' R'
      simp only [↓u_sRet, ↓u_sRetN, ↓u_sNext, ↓u_sBrk, ↓u_sCont, ↓u_sSeq, ↓u_sDrop, ↓u_sIf, ↓u_wNil, ↓u_wCons, ↓u_wTup, ↓u_wLst, ↓u_wTst, ↓u_wTru, ↓u_wAnd, ↓u_wOr, ↓u_wNot, ↓u_wAndV, ↓u_wOrV, ↓u_wNotV, ↓u_wIfE, ↓u_wC, ↓u_wOp, ↓u_wUn, ↓u_wCall, ↓u_wChain, ↓u_wIsi, ↓u_wPart, ↓u_wNoPart, ↓u_wSl, ↓u_slT, ↓u_slL, ↓u_wMeth, ↓u_wKGet, ↓u_wInK, ↓u_sAsg, ↓u_exbl, ↓u_exint, ↓u_exstr, ↓u_exref, ↓u_exsome, ↓u_trubl, ↓u_truint, ↓u_trunon, ↓u_trulst, ↓u_trutup, ↓oEq_ss, ↓oEq_ii, ↓oEq_bb, ↓oEq_ni, ↓oNe_ss, ↓oNe_ii, ↓oNe_bb, ↓oEq_l0, ↓oNe_l0, ↓oEq_t0, ↓oNe_t0, ↓oLt_ii, ↓oLe_ii, ↓oGt_ii, ↓oGe_ii, ↓oSub_ii, ↓oAdd_ii, ↓u_lenT, ↓u_lenL, ↓u_isnon, ↓u_ixtup0, ↓u_ixlst0, ↓u_ixtup1, ↓u_ixlst1, ↓u_ixtup2, ↓u_ixlst2, ↓u_ixtup3, ↓u_ixlst3, ↓u_ixtup4, ↓u_ixlst4, ↓u_ixtup5, ↓u_ixlst5, ↓u_v0, ↓u_s0, ↓u_v1, ↓u_s1, ↓u_v2, ↓u_s2, ↓u_v3, ↓u_s3, ↓u_v4, ↓u_s4, ↓u_v5, ↓u_s5, ↓u_v6, ↓u_s6, ↓u_v7, ↓u_s7, ↓u_v8, ↓u_s8, ↓u_v9, ↓u_s9, ↓u_v10, ↓u_s10, ↓u_v11, ↓u_s11, ↓u_v12, ↓u_s12, ↓u_v13, ↓u_s13, ↓u_v14, ↓u_s14, ↓u_v15, ↓u_s15, ↓u_v16, ↓u_s16, ↓u_v17, ↓u_s17, ↓u_v18, ↓u_s18, ↓u_v19, ↓u_s19, if_true, if_false, Bool.false_eq_true, Bool.not_true, Bool.not_false, Bool.true_and, Bool.false_and, Bool.and_true, Bool.and_false, Bool.or_true, Bool.or_false, Bool.true_or, Bool.false_or, true_and, and_true, Option.isSome_some, List.length_cons, List.length_nil, ofS_beq, String.reduceBEq]
      refine hspr hk _ _ _ ⟨a, b, n, rfl, h2, hn0, hn1, fun t' S'' g1 g2 g3 => hR' _ _ ⟨fun x hx => ?_, g2, h3.trans g3⟩⟩
      rcases List.mem_append.mp hx with hx | hx
      · exact h1 x hx
      · have : x = t' := by simpa using hx
        rw [this]; exact g1
    · rintro acc S' hl ⟨h1, h2, h3⟩
      rw [rng_len] at hl
      simp only [List.length_nil] at hl
      rw [tuple_l (by omega)]
      exact q _ _ (ga_tup (by omega) h1) h2 h3
  by_cases e : k = "s"
  · have r7 := rows 7 (by decide) (by decide) (.inl e)
    subst e
    simp only [↓u_sRet, ↓u_sRetN, ↓u_sNext, ↓u_sBrk, ↓u_sCont, ↓u_sSeq, ↓u_sDrop, ↓u_sIf, ↓u_wNil, ↓u_wCons, ↓u_wTup, ↓u_wLst, ↓u_wTst, ↓u_wTru, ↓u_wAnd, ↓u_wOr, ↓u_wNot, ↓u_wAndV, ↓u_wOrV, ↓u_wNotV, ↓u_wIfE, ↓u_wC, ↓u_wOp, ↓u_wUn, ↓u_wCall, ↓u_wChain, ↓u_wIsi, ↓u_wPart, ↓u_wNoPart, ↓u_wSl, ↓u_slT, ↓u_slL, ↓u_wMeth, ↓u_wKGet, ↓u_wInK, ↓u_sAsg, ↓u_exbl, ↓u_exint, ↓u_exstr, ↓u_exref, ↓u_exsome, ↓u_trubl, ↓u_truint, ↓u_trunon, ↓u_trulst, ↓u_trutup, ↓oEq_ss, ↓oEq_ii, ↓oEq_bb, ↓oEq_ni, ↓oNe_ss, ↓oNe_ii, ↓oNe_bb, ↓oEq_l0, ↓oNe_l0, ↓oEq_t0, ↓oNe_t0, ↓oLt_ii, ↓oLe_ii, ↓oGt_ii, ↓oGe_ii, ↓oSub_ii, ↓oAdd_ii, ↓u_lenT, ↓u_lenL, ↓u_isnon, ↓u_ixtup0, ↓u_ixlst0, ↓u_ixtup1, ↓u_ixlst1, ↓u_ixtup2, ↓u_ixlst2, ↓u_ixtup3, ↓u_ixlst3, ↓u_ixtup4, ↓u_ixlst4, ↓u_ixtup5, ↓u_ixlst5, ↓u_v0, ↓u_s0, ↓u_v1, ↓u_s1, ↓u_v2, ↓u_s2, ↓u_v3, ↓u_s3, ↓u_v4, ↓u_s4, ↓u_v5, ↓u_s5, ↓u_v6, ↓u_s6, ↓u_v7, ↓u_s7, ↓u_v8, ↓u_s8, ↓u_v9, ↓u_s9, ↓u_v10, ↓u_s10, ↓u_v11, ↓u_s11, ↓u_v12, ↓u_s12, ↓u_v13, ↓u_s13, ↓u_v14, ↓u_s14, ↓u_v15, ↓u_s15, ↓u_v16, ↓u_s16, ↓u_v17, ↓u_s17, ↓u_v18, ↓u_s18, ↓u_v19, ↓u_s19, if_true, if_false, Bool.false_eq_true, Bool.not_true, Bool.not_false, Bool.true_and, Bool.false_and, Bool.and_true, Bool.and_false, Bool.or_true, Bool.or_false, Bool.true_or, Bool.false_or, true_and, and_true, Option.isSome_some, List.length_cons, List.length_nil, ofS_beq, String.reduceBEq, oIn_s2, s2]
    unfold wLc wRng1
    simp only [↓u_sRet, ↓u_sRetN, ↓u_sNext, ↓u_sBrk, ↓u_sCont, ↓u_sSeq, ↓u_sDrop, ↓u_sIf, ↓u_wNil, ↓u_wCons, ↓u_wTup, ↓u_wLst, ↓u_wTst, ↓u_wTru, ↓u_wAnd, ↓u_wOr, ↓u_wNot, ↓u_wAndV, ↓u_wOrV, ↓u_wNotV, ↓u_wIfE, ↓u_wC, ↓u_wOp, ↓u_wUn, ↓u_wCall, ↓u_wChain, ↓u_wIsi, ↓u_wPart, ↓u_wNoPart, ↓u_wSl, ↓u_slT, ↓u_slL, ↓u_wMeth, ↓u_wKGet, ↓u_wInK, ↓u_sAsg, ↓u_exbl, ↓u_exint, ↓u_exstr, ↓u_exref, ↓u_exsome, ↓u_trubl, ↓u_truint, ↓u_trunon, ↓u_trulst, ↓u_trutup, ↓oEq_ss, ↓oEq_ii, ↓oEq_bb, ↓oEq_ni, ↓oNe_ss, ↓oNe_ii, ↓oNe_bb, ↓oEq_l0, ↓oNe_l0, ↓oEq_t0, ↓oNe_t0, ↓oLt_ii, ↓oLe_ii, ↓oGt_ii, ↓oGe_ii, ↓oSub_ii, ↓oAdd_ii, ↓u_lenT, ↓u_lenL, ↓u_isnon, ↓u_ixtup0, ↓u_ixlst0, ↓u_ixtup1, ↓u_ixlst1, ↓u_ixtup2, ↓u_ixlst2, ↓u_ixtup3, ↓u_ixlst3, ↓u_ixtup4, ↓u_ixlst4, ↓u_ixtup5, ↓u_ixlst5, ↓u_v0, ↓u_s0, ↓u_v1, ↓u_s1, ↓u_v2, ↓u_s2, ↓u_v3, ↓u_s3, ↓u_v4, ↓u_s4, ↓u_v5, ↓u_s5, ↓u_v6, ↓u_s6, ↓u_v7, ↓u_s7, ↓u_v8, ↓u_s8, ↓u_v9, ↓u_s9, ↓u_v10, ↓u_s10, ↓u_v11, ↓u_s11, ↓u_v12, ↓u_s12, ↓u_v13, ↓u_s13, ↓u_v14, ↓u_s14, ↓u_v15, ↓u_s15, ↓u_v16, ↓u_s16, ↓u_v17, ↓u_s17, ↓u_v18, ↓u_s18, ↓u_v19, ↓u_s19, if_true, if_false, Bool.false_eq_true, Bool.not_true, Bool.not_false, Bool.true_and, Bool.false_and, Bool.and_true, Bool.and_false, Bool.or_true, Bool.or_false, Bool.true_or, Bool.false_or, true_and, and_true, Option.isSome_some, List.length_cons, List.length_nil, ofS_beq, String.reduceBEq]
    exact r7
  by_cases e : k = "t"
  · have r5 := rows 5 (by decide) (by decide) (.inr e)
    subst e
    simp only [↓u_sRet, ↓u_sRetN, ↓u_sNext, ↓u_sBrk, ↓u_sCont, ↓u_sSeq, ↓u_sDrop, ↓u_sIf, ↓u_wNil, ↓u_wCons, ↓u_wTup, ↓u_wLst, ↓u_wTst, ↓u_wTru, ↓u_wAnd, ↓u_wOr, ↓u_wNot, ↓u_wAndV, ↓u_wOrV, ↓u_wNotV, ↓u_wIfE, ↓u_wC, ↓u_wOp, ↓u_wUn, ↓u_wCall, ↓u_wChain, ↓u_wIsi, ↓u_wPart, ↓u_wNoPart, ↓u_wSl, ↓u_slT, ↓u_slL, ↓u_wMeth, ↓u_wKGet, ↓u_wInK, ↓u_sAsg, ↓u_exbl, ↓u_exint, ↓u_exstr, ↓u_exref, ↓u_exsome, ↓u_trubl, ↓u_truint, ↓u_trunon, ↓u_trulst, ↓u_trutup, ↓oEq_ss, ↓oEq_ii, ↓oEq_bb, ↓oEq_ni, ↓oNe_ss, ↓oNe_ii, ↓oNe_bb, ↓oEq_l0, ↓oNe_l0, ↓oEq_t0, ↓oNe_t0, ↓oLt_ii, ↓oLe_ii, ↓oGt_ii, ↓oGe_ii, ↓oSub_ii, ↓oAdd_ii, ↓u_lenT, ↓u_lenL, ↓u_isnon, ↓u_ixtup0, ↓u_ixlst0, ↓u_ixtup1, ↓u_ixlst1, ↓u_ixtup2, ↓u_ixlst2, ↓u_ixtup3, ↓u_ixlst3, ↓u_ixtup4, ↓u_ixlst4, ↓u_ixtup5, ↓u_ixlst5, ↓u_v0, ↓u_s0, ↓u_v1, ↓u_s1, ↓u_v2, ↓u_s2, ↓u_v3, ↓u_s3, ↓u_v4, ↓u_s4, ↓u_v5, ↓u_s5, ↓u_v6, ↓u_s6, ↓u_v7, ↓u_s7, ↓u_v8, ↓u_s8, ↓u_v9, ↓u_s9, ↓u_v10, ↓u_s10, ↓u_v11, ↓u_s11, ↓u_v12, ↓u_s12, ↓u_v13, ↓u_s13, ↓u_v14, ↓u_s14, ↓u_v15, ↓u_s15, ↓u_v16, ↓u_s16, ↓u_v17, ↓u_s17, ↓u_v18, ↓u_s18, ↓u_v19, ↓u_s19, if_true, if_false, Bool.false_eq_true, Bool.not_true, Bool.not_false, Bool.true_and, Bool.false_and, Bool.and_true, Bool.and_false, Bool.or_true, Bool.or_false, Bool.true_or, Bool.false_or, true_and, and_true, Option.isSome_some, List.length_cons, List.length_nil, ofS_beq, String.reduceBEq, oIn_s2, s2]
    unfold wLc wRng1
    simp only [↓u_sRet, ↓u_sRetN, ↓u_sNext, ↓u_sBrk, ↓u_sCont, ↓u_sSeq, ↓u_sDrop, ↓u_sIf, ↓u_wNil, ↓u_wCons, ↓u_wTup, ↓u_wLst, ↓u_wTst, ↓u_wTru, ↓u_wAnd, ↓u_wOr, ↓u_wNot, ↓u_wAndV, ↓u_wOrV, ↓u_wNotV, ↓u_wIfE, ↓u_wC, ↓u_wOp, ↓u_wUn, ↓u_wCall, ↓u_wChain, ↓u_wIsi, ↓u_wPart, ↓u_wNoPart, ↓u_wSl, ↓u_slT, ↓u_slL, ↓u_wMeth, ↓u_wKGet, ↓u_wInK, ↓u_sAsg, ↓u_exbl, ↓u_exint, ↓u_exstr, ↓u_exref, ↓u_exsome, ↓u_trubl, ↓u_truint, ↓u_trunon, ↓u_trulst, ↓u_trutup, ↓oEq_ss, ↓oEq_ii, ↓oEq_bb, ↓oEq_ni, ↓oNe_ss, ↓oNe_ii, ↓oNe_bb, ↓oEq_l0, ↓oNe_l0, ↓oEq_t0, ↓oNe_t0, ↓oLt_ii, ↓oLe_ii, ↓oGt_ii, ↓oGe_ii, ↓oSub_ii, ↓oAdd_ii, ↓u_lenT, ↓u_lenL, ↓u_isnon, ↓u_ixtup0, ↓u_ixlst0, ↓u_ixtup1, ↓u_ixlst1, ↓u_ixtup2, ↓u_ixlst2, ↓u_ixtup3, ↓u_ixlst3, ↓u_ixtup4, ↓u_ixlst4, ↓u_ixtup5, ↓u_ixlst5, ↓u_v0, ↓u_s0, ↓u_v1, ↓u_s1, ↓u_v2, ↓u_s2, ↓u_v3, ↓u_s3, ↓u_v4, ↓u_s4, ↓u_v5, ↓u_s5, ↓u_v6, ↓u_s6, ↓u_v7, ↓u_s7, ↓u_v8, ↓u_s8, ↓u_v9, ↓u_s9, ↓u_v10, ↓u_s10, ↓u_v11, ↓u_s11, ↓u_v12, ↓u_s12, ↓u_v13, ↓u_s13, ↓u_v14, ↓u_s14, ↓u_v15, ↓u_s15, ↓u_v16, ↓u_s16, ↓u_v17, ↓u_s17, ↓u_v18, ↓u_s18, ↓u_v19, ↓u_s19, if_true, if_false, Bool.false_eq_true, Bool.not_true, Bool.not_false, Bool.true_and, Bool.false_and, Bool.and_true, Bool.and_false, Bool.or_true, Bool.or_false, Bool.true_or, Bool.false_or, true_and, and_true, Option.isSome_some, List.length_cons, List.length_nil, ofS_beq, String.reduceBEq]
    exact r5
  by_cases e : k = "b"
  · subst e
    simp only [↓u_sRet, ↓u_sRetN, ↓u_sNext, ↓u_sBrk, ↓u_sCont, ↓u_sSeq, ↓u_sDrop, ↓u_sIf, ↓u_wNil, ↓u_wCons, ↓u_wTup, ↓u_wLst, ↓u_wTst, ↓u_wTru, ↓u_wAnd, ↓u_wOr, ↓u_wNot, ↓u_wAndV, ↓u_wOrV, ↓u_wNotV, ↓u_wIfE, ↓u_wC, ↓u_wOp, ↓u_wUn, ↓u_wCall, ↓u_wChain, ↓u_wIsi, ↓u_wPart, ↓u_wNoPart, ↓u_wSl, ↓u_slT, ↓u_slL, ↓u_wMeth, ↓u_wKGet, ↓u_wInK, ↓u_sAsg, ↓u_exbl, ↓u_exint, ↓u_exstr, ↓u_exref, ↓u_exsome, ↓u_trubl, ↓u_truint, ↓u_trunon, ↓u_trulst, ↓u_trutup, ↓oEq_ss, ↓oEq_ii, ↓oEq_bb, ↓oEq_ni, ↓oNe_ss, ↓oNe_ii, ↓oNe_bb, ↓oEq_l0, ↓oNe_l0, ↓oEq_t0, ↓oNe_t0, ↓oLt_ii, ↓oLe_ii, ↓oGt_ii, ↓oGe_ii, ↓oSub_ii, ↓oAdd_ii, ↓u_lenT, ↓u_lenL, ↓u_isnon, ↓u_ixtup0, ↓u_ixlst0, ↓u_ixtup1, ↓u_ixlst1, ↓u_ixtup2, ↓u_ixlst2, ↓u_ixtup3, ↓u_ixlst3, ↓u_ixtup4, ↓u_ixlst4, ↓u_ixtup5, ↓u_ixlst5, ↓u_v0, ↓u_s0, ↓u_v1, ↓u_s1, ↓u_v2, ↓u_s2, ↓u_v3, ↓u_s3, ↓u_v4, ↓u_s4, ↓u_v5, ↓u_s5, ↓u_v6, ↓u_s6, ↓u_v7, ↓u_s7, ↓u_v8, ↓u_s8, ↓u_v9, ↓u_s9, ↓u_v10, ↓u_s10, ↓u_v11, ↓u_s11, ↓u_v12, ↓u_s12, ↓u_v13, ↓u_s13, ↓u_v14, ↓u_s14, ↓u_v15, ↓u_s15, ↓u_v16, ↓u_s16, ↓u_v17, ↓u_s17, ↓u_v18, ↓u_s18, ↓u_v19, ↓u_s19, if_true, if_false, Bool.false_eq_true, Bool.not_true, Bool.not_false, Bool.true_and, Bool.false_and, Bool.and_true, Bool.and_false, Bool.or_true, Bool.or_false, Bool.true_or, Bool.false_or, true_and, and_true, Option.isSome_some, List.length_cons, List.length_nil, ofS_beq, String.reduceBEq, oIn_s2, s2]
    exact draw_of d3 hn0 hn1 fun r S4 _ _ d4 k5 => q _ _ (ga_int r) d4 (k4.trans k5)
  · have ne : ∀ {a : String}, ¬ k = Str.ofString a → (k == Str.ofString a) = false := fun h => beq_eq_false_iff_ne.mpr h
    have e_v := ne (show ¬ k = Str.ofString "v" by assumption)
    have e_w := ne (show ¬ k = Str.ofString "w" by assumption)
    have e_a := ne (show ¬ k = Str.ofString "a" by assumption)
    have e_r := ne (show ¬ k = Str.ofString "r" by assumption)
    have e_n := ne (show ¬ k = Str.ofString "n" by assumption)
    have e_f := ne (show ¬ k = Str.ofString "f" by assumption)
    have e_o := ne (show ¬ k = Str.ofString "o" by assumption)
    have e_c := ne (show ¬ k = Str.ofString "c" by assumption)
    have e_s := ne (show ¬ k = Str.ofString "s" by assumption)
    have e_t := ne (show ¬ k = Str.ofString "t" by assumption)
    have e_b := ne (show ¬ k = Str.ofString "b" by assumption)
    simp only [↓u_sRet, ↓u_sRetN, ↓u_sNext, ↓u_sBrk, ↓u_sCont, ↓u_sSeq, ↓u_sDrop, ↓u_sIf, ↓u_wNil, ↓u_wCons, ↓u_wTup, ↓u_wLst, ↓u_wTst, ↓u_wTru, ↓u_wAnd, ↓u_wOr, ↓u_wNot, ↓u_wAndV, ↓u_wOrV, ↓u_wNotV, ↓u_wIfE, ↓u_wC, ↓u_wOp, ↓u_wUn, ↓u_wCall, ↓u_wChain, ↓u_wIsi, ↓u_wPart, ↓u_wNoPart, ↓u_wSl, ↓u_slT, ↓u_slL, ↓u_wMeth, ↓u_wKGet, ↓u_wInK, ↓u_sAsg, ↓u_exbl, ↓u_exint, ↓u_exstr, ↓u_exref, ↓u_exsome, ↓u_trubl, ↓u_truint, ↓u_trunon, ↓u_trulst, ↓u_trutup, ↓oEq_ss, ↓oEq_ii, ↓oEq_bb, ↓oEq_ni, ↓oNe_ss, ↓oNe_ii, ↓oNe_bb, ↓oEq_l0, ↓oNe_l0, ↓oEq_t0, ↓oNe_t0, ↓oLt_ii, ↓oLe_ii, ↓oGt_ii, ↓oGe_ii, ↓oSub_ii, ↓oAdd_ii, ↓u_lenT, ↓u_lenL, ↓u_isnon, ↓u_ixtup0, ↓u_ixlst0, ↓u_ixtup1, ↓u_ixlst1, ↓u_ixtup2, ↓u_ixlst2, ↓u_ixtup3, ↓u_ixlst3, ↓u_ixtup4, ↓u_ixlst4, ↓u_ixtup5, ↓u_ixlst5, ↓u_v0, ↓u_s0, ↓u_v1, ↓u_s1, ↓u_v2, ↓u_s2, ↓u_v3, ↓u_s3, ↓u_v4, ↓u_s4, ↓u_v5, ↓u_s5, ↓u_v6, ↓u_s6, ↓u_v7, ↓u_s7, ↓u_v8, ↓u_s8, ↓u_v9, ↓u_s9, ↓u_v10, ↓u_s10, ↓u_v11, ↓u_s11, ↓u_v12, ↓u_s12, ↓u_v13, ↓u_s13, ↓u_v14, ↓u_s14, ↓u_v15, ↓u_s15, ↓u_v16, ↓u_s16, ↓u_v17, ↓u_s17, ↓u_v18, ↓u_s18, ↓u_v19, ↓u_s19, if_true, if_false, Bool.false_eq_true, Bool.not_true, Bool.not_false, Bool.true_and, Bool.false_and, Bool.and_true, Bool.and_false, Bool.or_true, Bool.or_false, Bool.true_or, Bool.false_or, true_and, and_true, Option.isSome_some, List.length_cons, List.length_nil, ofS_beq, String.reduceBEq, oIn_s2, s2, e_v, e_w, e_a, e_r, e_n, e_f, e_o, e_c, e_s, e_t, e_b]
    exact q _ _ (ga_int j) d3 k4
theorem ok_right_a {spr : List T → Sto → Post → Prop} : ∀ ts S R, sp_right_a ts S R → w_law_right spr { nx := fun _ S' => R .non S', rt := R } (startT n_law_right ts) S := by
  rintro ts S R ⟨a, b, n, rfl, hd, h0, h1, q⟩
  exact right_g (fun h => by simp [ofS_eq] at h) hd h0 h1 q
theorem ok_law_right : ∀ ts S R, sp_law_right ts S R → w_law_right sp_right_a { nx := fun _ S' => R .non S', rt := R } (startT n_law_right ts) S := by
  rintro ts S R ⟨a, b, k, n, rfl, hd, h0, h1, q⟩
  exact right_g (fun _ _ _ _ h => h) hd h0 h1 q
end TL.K

set_option Elab.async false
set_option linter.all false
set_option maxRecDepth 100000
set_option maxHeartbeats 8000000
namespace TL.K
open PySem L2 PyProof.Rows
theorem Kp.none {a b p : Addr} {S S' : Sto} (k : Kp a b S S') (d : Dk a b S') (hp : S' p = none) : S p = none := by
  have n := d.na hp
  cases h : S p with
  | none => rfl
  | some v => rw [k p v n.1 n.2 h] at hp; cases hp
theorem look_of {w : Str} : ∀ {fs : List (Str × Str)}, w ∈ fs.map (·.1) → ∃ ks, lookF w fs = some ks
  | [], h => by simp at h
  | (k, t) :: fs, h => by
    simp only [lookF]
    by_cases e : k = w
    · exact ⟨t, if_pos e⟩
    · rw [if_neg e]
      refine look_of ?_
      rw [List.map_cons] at h
      rcases List.mem_cons.mp h with h | h
      · exact absurd h.symm e
      · exact h
theorem Dk.nf {a b c : Addr} {S : Sto} {fs : List (Str × Str)} (d : Dk a b S) (h : S c = some (.dK (fD fs))) : c ≠ a ∧ c ≠ b := by
  obtain ⟨ns, m, dd, h1, h2, h3, h4⟩ := d
  constructor
  · intro e
    rw [e, h3] at h
    have h : [((.inr (Str.ofString "left") : Key), T.ref b), (.inr (Str.ofString "mixed"), T.int m), (.inr (Str.ofString "draws"), T.int dd)] = fD fs := by
      injection h with h
      injection h
    cases fs with
    | nil => simp [fD] at h
    | cons p fs => simp [fD] at h
  · intro e
    rw [e, h4] at h
    cases h
theorem get_f {S : Sto} {c : Addr} {fs : List (Str × Str)} {w ks : Str} {R : Post} {x0 x2 : Option T} {l : Sl} (h : S c = some (.dK (fD fs))) (hk : lookF w fs = some ks) : (wDGet (wVar 1) (wVar 3) (x0 :: some (.ref c) :: x2 :: some (.str w) :: l) S R) = (R (.str ks) S) := by
  have hd := dg_fD h w
  rw [hk] at hd
  rw [u_wDGet]
  simp only [↓u_v1, ↓u_v3]
  exact propext ⟨fun ⟨a', t', e, h1, q⟩ => by cases e; rw [hd] at h1; cases h1; exact q, fun q => ⟨c, _, rfl, hd, q⟩⟩
theorem sortD_of {S : Sto} {c : Addr} {fs : List (Str × Str)} {R : Post} (h : S c = some (.dK (fD fs))) (hl : fs.length < 64) (q : ∀ ys : List Str, ys.Perm (fs.map (·.1)) → R (.lst (ys.map T.str)) S) : oSortD [.ref c] S R :=
  ⟨c, _, fs.map (·.1), rfl, h, by unfold fD; simp [List.map_map, Function.comp_def], by simpa using hl, fun ys hp _ => q ys hp⟩
/-- the parts of these kinds, by draws -/
theorem rights_of {a b : Addr} {n : Int} {S : Sto} {ks : Str} {tg : Nat} {we : WE} {ρ : Sl} {R : Post} (hd : Dk a b S) (hn0 : 0 < n) (hn1 : n < 1073741824) (hks : ks.length ≤ 10)
    (hw : ∀ (c : Nat) (S' : Sto) (R' : Post), sp_law_right [.ref a, .str ⟨#[c]⟩, .int n] S' R' → we (ρ.set tg (some (.str ⟨#[c]⟩))) S' R') (q : ∀ acc S', acc.length = ks.length → (∀ x ∈ acc, GA x) → Dk a b S' → Kp a b S S' → R (.tup acc) S') :
    lcT (.nm tg) wYes we ρ (ks.cps.toList.map fun c => T.str ⟨#[c]⟩) [] S fun acc S2 => oTuple [.lst acc] S2 R := by
  have hsl := sizeLine_eq
  refine lc_inv (fun acc S' => (∀ x ∈ acc, GA x) ∧ Dk a b S' ∧ Kp a b S S') ⟨by simp, hd, Kp.refl⟩ ?_ ?_
  · rintro t ht acc S' ⟨h1, h2, h3⟩
    obtain ⟨c, _, rfl⟩ := signs_get ks t ht
    refine ⟨_, rfl, fun R' hR' => hw c S' R' ⟨a, b, _, n, rfl, h2, hn0, hn1, fun t' S'' g1 g2 g3 => hR' _ _ ⟨fun x hx => ?_, g2, h3.trans g3⟩⟩⟩
    rcases List.mem_append.mp hx with hx | hx
    · exact h1 x hx
    · have : x = t' := by simpa using hx
      rw [this]; exact g1
  · rintro acc S' hl ⟨h1, h2, h3⟩
    have hl2 : acc.length = ks.length := by rw [hl, List.length_map]; simp [Str.length]
    rw [tuple_l (by omega)]
    exact q _ _ hl2 h1 h2 h3
theorem ok_law_built : ∀ ts S R, sp_law_built ts S R → w_law_built { nx := fun _ S' => R .non S', rt := R } (startT n_law_built ts) S := by
  rintro ts S R ⟨a, b, c, n, fs, rfl, hd, hc, hfs, hn0, hn1, q⟩
  rw [show startT n_law_built [.ref a, .ref c, .int n] = [some (.ref a), some (.ref c), some (.int n), none, none] from rfl]
  unfold w_law_built
  have hsl := sizeLine_eq
  have nc := hd.nf hc
  simp only [↓u_sRet, ↓u_sRetN, ↓u_sNext, ↓u_sBrk, ↓u_sCont, ↓u_sSeq, ↓u_sDrop, ↓u_sIf, ↓u_wNil, ↓u_wCons, ↓u_wTup, ↓u_wLst, ↓u_wTst, ↓u_wTru, ↓u_wAnd, ↓u_wOr, ↓u_wNot, ↓u_wAndV, ↓u_wOrV, ↓u_wNotV, ↓u_wIfE, ↓u_wC, ↓u_wOp, ↓u_wUn, ↓u_wCall, ↓u_wChain, ↓u_wIsi, ↓u_wPart, ↓u_wNoPart, ↓u_wSl, ↓u_slT, ↓u_slL, ↓u_wMeth, ↓u_wKGet, ↓u_wInK, ↓u_sAsg, ↓u_exbl, ↓u_exint, ↓u_exstr, ↓u_exref, ↓u_exsome, ↓u_trubl, ↓u_truint, ↓u_trunon, ↓u_trulst, ↓u_trutup, ↓oEq_ss, ↓oEq_ii, ↓oEq_bb, ↓oEq_ni, ↓oNe_ss, ↓oNe_ii, ↓oNe_bb, ↓oEq_l0, ↓oNe_l0, ↓oEq_t0, ↓oNe_t0, ↓oLt_ii, ↓oLe_ii, ↓oGt_ii, ↓oGe_ii, ↓oSub_ii, ↓oAdd_ii, ↓u_lenT, ↓u_lenL, ↓u_isnon, ↓u_ixtup0, ↓u_ixlst0, ↓u_ixtup1, ↓u_ixlst1, ↓u_ixtup2, ↓u_ixlst2, ↓u_ixtup3, ↓u_ixlst3, ↓u_ixtup4, ↓u_ixlst4, ↓u_ixtup5, ↓u_ixlst5, ↓u_v0, ↓u_s0, ↓u_v1, ↓u_s1, ↓u_v2, ↓u_s2, ↓u_v3, ↓u_s3, ↓u_v4, ↓u_s4, ↓u_v5, ↓u_s5, ↓u_v6, ↓u_s6, ↓u_v7, ↓u_s7, ↓u_v8, ↓u_s8, ↓u_v9, ↓u_s9, ↓u_v10, ↓u_s10, ↓u_v11, ↓u_s11, ↓u_v12, ↓u_s12, ↓u_v13, ↓u_s13, ↓u_v14, ↓u_s14, ↓u_v15, ↓u_s15, ↓u_v16, ↓u_s16, ↓u_v17, ↓u_s17, ↓u_v18, ↓u_s18, ↓u_v19, ↓u_s19, if_true, if_false, Bool.false_eq_true, Bool.not_true, Bool.not_false, Bool.true_and, Bool.false_and, Bool.and_true, Bool.and_false, Bool.or_true, Bool.or_false, Bool.true_or, Bool.false_or, true_and, and_true, Option.isSome_some, List.length_cons, List.length_nil, ofS_beq, String.reduceBEq]
  refine sortD_of hc hfs.2.1 fun ys hp => ?_
  refine pick_of hd (fun e => ?_) (by rw [List.length_map, hp.length_eq, List.length_map]; have := hfs.2.1; omega) fun t S1 ht d1 k1 => ?_
  · have h0 : ys = [] := by simpa using e
    rw [h0] at hp
    have := hp.length_eq
    rw [List.length_map] at this
    exact hfs.1 (List.eq_nil_of_length_eq_zero this.symm)
  obtain ⟨w, hw, rfl⟩ := List.mem_map.mp ht
  obtain ⟨ks, hk⟩ := look_of (hp.mem_iff.mp hw)
  have hks : ks.length ≤ 10 := (hfs.2.2.2.1 _ (look_mem hk)).1
  have hc1 : S1 c = some (.dK (fD fs)) := k1 _ _ nc.1 nc.2 hc
  have hl : ks.cps.toList.length = ks.length := by simp [Str.length]
  refine ⟨by omega, ?_⟩
  unfold wLc wItems
  simp only [↓get_f hc1 hk]
  refine ⟨_, rfl, by rw [List.length_map, hl]; omega, ?_⟩
  refine rights_of d1 hn0 hn1 hks (fun cc S' R' h => ?_) fun acc S' h1 h2 h3 h4 => ?_
  · show wCall sp_law_right _ [some (.ref a), some (.ref c), some (.int n), some (.str w), some (.str ⟨#[cc]⟩)] S' R'
    simp only [↓u_sRet, ↓u_sRetN, ↓u_sNext, ↓u_sBrk, ↓u_sCont, ↓u_sSeq, ↓u_sDrop, ↓u_sIf, ↓u_wNil, ↓u_wCons, ↓u_wTup, ↓u_wLst, ↓u_wTst, ↓u_wTru, ↓u_wAnd, ↓u_wOr, ↓u_wNot, ↓u_wAndV, ↓u_wOrV, ↓u_wNotV, ↓u_wIfE, ↓u_wC, ↓u_wOp, ↓u_wUn, ↓u_wCall, ↓u_wChain, ↓u_wIsi, ↓u_wPart, ↓u_wNoPart, ↓u_wSl, ↓u_slT, ↓u_slL, ↓u_wMeth, ↓u_wKGet, ↓u_wInK, ↓u_sAsg, ↓u_exbl, ↓u_exint, ↓u_exstr, ↓u_exref, ↓u_exsome, ↓u_trubl, ↓u_truint, ↓u_trunon, ↓u_trulst, ↓u_trutup, ↓oEq_ss, ↓oEq_ii, ↓oEq_bb, ↓oEq_ni, ↓oNe_ss, ↓oNe_ii, ↓oNe_bb, ↓oEq_l0, ↓oNe_l0, ↓oEq_t0, ↓oNe_t0, ↓oLt_ii, ↓oLe_ii, ↓oGt_ii, ↓oGe_ii, ↓oSub_ii, ↓oAdd_ii, ↓u_lenT, ↓u_lenL, ↓u_isnon, ↓u_ixtup0, ↓u_ixlst0, ↓u_ixtup1, ↓u_ixlst1, ↓u_ixtup2, ↓u_ixlst2, ↓u_ixtup3, ↓u_ixlst3, ↓u_ixtup4, ↓u_ixlst4, ↓u_ixtup5, ↓u_ixlst5, ↓u_v0, ↓u_s0, ↓u_v1, ↓u_s1, ↓u_v2, ↓u_s2, ↓u_v3, ↓u_s3, ↓u_v4, ↓u_s4, ↓u_v5, ↓u_s5, ↓u_v6, ↓u_s6, ↓u_v7, ↓u_s7, ↓u_v8, ↓u_s8, ↓u_v9, ↓u_s9, ↓u_v10, ↓u_s10, ↓u_v11, ↓u_s11, ↓u_v12, ↓u_s12, ↓u_v13, ↓u_s13, ↓u_v14, ↓u_s14, ↓u_v15, ↓u_s15, ↓u_v16, ↓u_s16, ↓u_v17, ↓u_s17, ↓u_v18, ↓u_s18, ↓u_v19, ↓u_s19, if_true, if_false, Bool.false_eq_true, Bool.not_true, Bool.not_false, Bool.true_and, Bool.false_and, Bool.and_true, Bool.and_false, Bool.or_true, Bool.or_false, Bool.true_or, Bool.false_or, true_and, and_true, Option.isSome_some, List.length_cons, List.length_nil, ofS_beq, String.reduceBEq]
    exact h
  · show oAdd _ _ _ _
    rw [add_tt (by simp; omega)]
    exact q w ks acc S' hk h1 h2 h3 (k1.trans h4)
theorem rng1_of {n : Int} {S : Sto} {RA : List T → Sto → Prop} {w : WE} {ρ : Sl} (hw : ∀ R' : Post, R' (.int n) S → w ρ S R') (h0 : 0 ≤ n) (h1 : n < 2 ^ 62) (q : RA (rngT 0 n.toNat) S) : wRng1 w ρ S RA := hw _ ⟨n, rfl, by omega, h1, q⟩
theorem gg_len {bs : List T} (h : bs ≠ []) : 0 < bs.length := List.length_pos_iff.mpr h
theorem ok_law_graph : ∀ ts S R, sp_law_graph ts S R → w_law_graph { nx := fun _ S' => R .non S', rt := R } (startT n_law_graph ts) S := by
  rintro ts S R ⟨a, b, rfl, hd, q⟩
  rw [show startT n_law_graph [.ref a] = [some (.ref a), none, none, none, none, none, none, none] from rfl]
  unfold w_law_graph
  have hsl := sizeLine_eq
  have h0 : (0 : Nat) ≤ sizeLine := Nat.zero_le _
  simp only [↓u_sRet, ↓u_sRetN, ↓u_sNext, ↓u_sBrk, ↓u_sCont, ↓u_sSeq, ↓u_sDrop, ↓u_sIf, ↓u_wNil, ↓u_wCons, ↓u_wTup, ↓u_wLst, ↓u_wTst, ↓u_wTru, ↓u_wAnd, ↓u_wOr, ↓u_wNot, ↓u_wAndV, ↓u_wOrV, ↓u_wNotV, ↓u_wIfE, ↓u_wC, ↓u_wOp, ↓u_wUn, ↓u_wCall, ↓u_wChain, ↓u_wIsi, ↓u_wPart, ↓u_wNoPart, ↓u_wSl, ↓u_slT, ↓u_slL, ↓u_wMeth, ↓u_wKGet, ↓u_wInK, ↓u_sAsg, ↓u_exbl, ↓u_exint, ↓u_exstr, ↓u_exref, ↓u_exsome, ↓u_trubl, ↓u_truint, ↓u_trunon, ↓u_trulst, ↓u_trutup, ↓oEq_ss, ↓oEq_ii, ↓oEq_bb, ↓oEq_ni, ↓oNe_ss, ↓oNe_ii, ↓oNe_bb, ↓oEq_l0, ↓oNe_l0, ↓oEq_t0, ↓oNe_t0, ↓oLt_ii, ↓oLe_ii, ↓oGt_ii, ↓oGe_ii, ↓oSub_ii, ↓oAdd_ii, ↓u_lenT, ↓u_lenL, ↓u_isnon, ↓u_ixtup0, ↓u_ixlst0, ↓u_ixtup1, ↓u_ixlst1, ↓u_ixtup2, ↓u_ixlst2, ↓u_ixtup3, ↓u_ixlst3, ↓u_ixtup4, ↓u_ixlst4, ↓u_ixtup5, ↓u_ixlst5, ↓u_v0, ↓u_s0, ↓u_v1, ↓u_s1, ↓u_v2, ↓u_s2, ↓u_v3, ↓u_s3, ↓u_v4, ↓u_s4, ↓u_v5, ↓u_s5, ↓u_v6, ↓u_s6, ↓u_v7, ↓u_s7, ↓u_v8, ↓u_s8, ↓u_v9, ↓u_s9, ↓u_v10, ↓u_s10, ↓u_v11, ↓u_s11, ↓u_v12, ↓u_s12, ↓u_v13, ↓u_s13, ↓u_v14, ↓u_s14, ↓u_v15, ↓u_s15, ↓u_v16, ↓u_s16, ↓u_v17, ↓u_s17, ↓u_v18, ↓u_s18, ↓u_v19, ↓u_s19, if_true, if_false, Bool.false_eq_true, Bool.not_true, Bool.not_false, Bool.true_and, Bool.false_and, Bool.and_true, Bool.and_false, Bool.or_true, Bool.or_false, Bool.true_or, Bool.false_or, true_and, and_true, Option.isSome_some, List.length_cons, List.length_nil, ofS_beq, String.reduceBEq, ↓u_cell]
  refine draw_of hd (by decide) (by decide) fun i S1 i0 i1 d1 k1 => ?_
  simp only [↓u_sRet, ↓u_sRetN, ↓u_sNext, ↓u_sBrk, ↓u_sCont, ↓u_sSeq, ↓u_sDrop, ↓u_sIf, ↓u_wNil, ↓u_wCons, ↓u_wTup, ↓u_wLst, ↓u_wTst, ↓u_wTru, ↓u_wAnd, ↓u_wOr, ↓u_wNot, ↓u_wAndV, ↓u_wOrV, ↓u_wNotV, ↓u_wIfE, ↓u_wC, ↓u_wOp, ↓u_wUn, ↓u_wCall, ↓u_wChain, ↓u_wIsi, ↓u_wPart, ↓u_wNoPart, ↓u_wSl, ↓u_slT, ↓u_slL, ↓u_wMeth, ↓u_wKGet, ↓u_wInK, ↓u_sAsg, ↓u_exbl, ↓u_exint, ↓u_exstr, ↓u_exref, ↓u_exsome, ↓u_trubl, ↓u_truint, ↓u_trunon, ↓u_trulst, ↓u_trutup, ↓oEq_ss, ↓oEq_ii, ↓oEq_bb, ↓oEq_ni, ↓oNe_ss, ↓oNe_ii, ↓oNe_bb, ↓oEq_l0, ↓oNe_l0, ↓oEq_t0, ↓oNe_t0, ↓oLt_ii, ↓oLe_ii, ↓oGt_ii, ↓oGe_ii, ↓oSub_ii, ↓oAdd_ii, ↓u_lenT, ↓u_lenL, ↓u_isnon, ↓u_ixtup0, ↓u_ixlst0, ↓u_ixtup1, ↓u_ixlst1, ↓u_ixtup2, ↓u_ixlst2, ↓u_ixtup3, ↓u_ixlst3, ↓u_ixtup4, ↓u_ixlst4, ↓u_ixtup5, ↓u_ixlst5, ↓u_v0, ↓u_s0, ↓u_v1, ↓u_s1, ↓u_v2, ↓u_s2, ↓u_v3, ↓u_s3, ↓u_v4, ↓u_s4, ↓u_v5, ↓u_s5, ↓u_v6, ↓u_s6, ↓u_v7, ↓u_s7, ↓u_v8, ↓u_s8, ↓u_v9, ↓u_s9, ↓u_v10, ↓u_s10, ↓u_v11, ↓u_s11, ↓u_v12, ↓u_s12, ↓u_v13, ↓u_s13, ↓u_v14, ↓u_s14, ↓u_v15, ↓u_s15, ↓u_v16, ↓u_s16, ↓u_v17, ↓u_s17, ↓u_v18, ↓u_s18, ↓u_v19, ↓u_s19, if_true, if_false, Bool.false_eq_true, Bool.not_true, Bool.not_false, Bool.true_and, Bool.false_and, Bool.and_true, Bool.and_false, Bool.or_true, Bool.or_false, Bool.true_or, Bool.false_or, true_and, and_true, Option.isSome_some, List.length_cons, List.length_nil, ofS_beq, String.reduceBEq]
  refine ⟨Nat.zero_le _, fun p hp => ⟨rfl, fun c S2 e2 hc hS2 => ?_⟩⟩
  have np := d1.na hp
  have hcp : c ≠ p := fun e => by rw [e, supd_same] at hc; cases hc
  have hc1 : S1 c = none := by rw [supd_ne hcp] at hc; exact hc
  have nc := d1.na hc1
  have hp0 := k1.none d1 hp
  have hc0 := k1.none d1 hc1
  have hp2 : S2 p = some (.lst []) := e2 _ _ supd_same
  have d2 : Dk a b S2 := e2.dk (d1.upd np.1 np.2)
  have k2 : Kp a b S S2 := (k1.upd hp0).trans e2.kp
  refine ⟨by omega, _, rfl, ?_⟩
  rw [show List.set (List.set (List.set [some (T.ref a), none, none, none, none, none, none, none] 1 (some (.int (1 + i)))) 2 (some (.ref p))) 3 (some (.ref c)) = [some (T.ref a), some (.int (1 + i)), some (.ref p), some (.ref c), none, none, none, none] from rfl]
  simp only [↓u_sRet, ↓u_sRetN, ↓u_sNext, ↓u_sBrk, ↓u_sCont, ↓u_sSeq, ↓u_sDrop, ↓u_sIf, ↓u_wNil, ↓u_wCons, ↓u_wTup, ↓u_wLst, ↓u_wTst, ↓u_wTru, ↓u_wAnd, ↓u_wOr, ↓u_wNot, ↓u_wAndV, ↓u_wOrV, ↓u_wNotV, ↓u_wIfE, ↓u_wC, ↓u_wOp, ↓u_wUn, ↓u_wCall, ↓u_wChain, ↓u_wIsi, ↓u_wPart, ↓u_wNoPart, ↓u_wSl, ↓u_slT, ↓u_slL, ↓u_wMeth, ↓u_wKGet, ↓u_wInK, ↓u_sAsg, ↓u_exbl, ↓u_exint, ↓u_exstr, ↓u_exref, ↓u_exsome, ↓u_trubl, ↓u_truint, ↓u_trunon, ↓u_trulst, ↓u_trutup, ↓oEq_ss, ↓oEq_ii, ↓oEq_bb, ↓oEq_ni, ↓oNe_ss, ↓oNe_ii, ↓oNe_bb, ↓oEq_l0, ↓oNe_l0, ↓oEq_t0, ↓oNe_t0, ↓oLt_ii, ↓oLe_ii, ↓oGt_ii, ↓oGe_ii, ↓oSub_ii, ↓oAdd_ii, ↓u_lenT, ↓u_lenL, ↓u_isnon, ↓u_ixtup0, ↓u_ixlst0, ↓u_ixtup1, ↓u_ixlst1, ↓u_ixtup2, ↓u_ixlst2, ↓u_ixtup3, ↓u_ixlst3, ↓u_ixtup4, ↓u_ixlst4, ↓u_ixtup5, ↓u_ixlst5, ↓u_v0, ↓u_s0, ↓u_v1, ↓u_s1, ↓u_v2, ↓u_s2, ↓u_v3, ↓u_s3, ↓u_v4, ↓u_s4, ↓u_v5, ↓u_s5, ↓u_v6, ↓u_s6, ↓u_v7, ↓u_s7, ↓u_v8, ↓u_s8, ↓u_v9, ↓u_s9, ↓u_v10, ↓u_s10, ↓u_v11, ↓u_s11, ↓u_v12, ↓u_s12, ↓u_v13, ↓u_s13, ↓u_v14, ↓u_s14, ↓u_v15, ↓u_s15, ↓u_v16, ↓u_s16, ↓u_v17, ↓u_s17, ↓u_v18, ↓u_s18, ↓u_v19, ↓u_s19, if_true, if_false, Bool.false_eq_true, Bool.not_true, Bool.not_false, Bool.true_and, Bool.false_and, Bool.and_true, Bool.and_false, Bool.or_true, Bool.or_false, Bool.true_or, Bool.false_or, true_and, and_true, Option.isSome_some, List.length_cons, List.length_nil, ofS_beq, String.reduceBEq, ↓u_disp, ↓u_p0, ↓u_p1]
  refine ⟨fD endsL, rfl, by unfold fD; rw [List.length_map]; decide, fun e he => ?_⟩
  rw [merge_nodup (by simp [endsL, ofS_eq])]
  have ne := d2.na he
  have he0 := k2.none d2 he
  have hep : e ≠ p := fun x => by rw [x, hp2] at he; cases he
  have hec : e ≠ c := fun x => by rw [x, hS2] at he; cases he
  have hp3 : supd S2 e (.dK (fD endsL)) p = some (.lst []) := by rw [supd_ne hep.symm]; exact hp2
  have hc3 : supd S2 e (.dK (fD endsL)) c = some (.dK (fD formsL)) := by rw [supd_ne hec.symm]; exact hS2
  have he3 : supd S2 e (.dK (fD endsL)) e = some (.dK (fD endsL)) := supd_same
  have d3 : Dk a b (supd S2 e (.dK (fD endsL))) := d2.upd ne.1 ne.2
  have k3 : Kp a b S (supd S2 e (.dK (fD endsL))) := k2.upd he0
  generalize supd S2 e (.dK (fD endsL)) = S3 at *
  clear k1 k2 d1 d2 e2 hp2 hS2 he hp hc hc1
  unfold sFor
  refine rng1_of (n := 1 + i) (fun R' q' => by simp only [↓u_sRet, ↓u_sRetN, ↓u_sNext, ↓u_sBrk, ↓u_sCont, ↓u_sSeq, ↓u_sDrop, ↓u_sIf, ↓u_wNil, ↓u_wCons, ↓u_wTup, ↓u_wLst, ↓u_wTst, ↓u_wTru, ↓u_wAnd, ↓u_wOr, ↓u_wNot, ↓u_wAndV, ↓u_wOrV, ↓u_wNotV, ↓u_wIfE, ↓u_wC, ↓u_wOp, ↓u_wUn, ↓u_wCall, ↓u_wChain, ↓u_wIsi, ↓u_wPart, ↓u_wNoPart, ↓u_wSl, ↓u_slT, ↓u_slL, ↓u_wMeth, ↓u_wKGet, ↓u_wInK, ↓u_sAsg, ↓u_exbl, ↓u_exint, ↓u_exstr, ↓u_exref, ↓u_exsome, ↓u_trubl, ↓u_truint, ↓u_trunon, ↓u_trulst, ↓u_trutup, ↓oEq_ss, ↓oEq_ii, ↓oEq_bb, ↓oEq_ni, ↓oNe_ss, ↓oNe_ii, ↓oNe_bb, ↓oEq_l0, ↓oNe_l0, ↓oEq_t0, ↓oNe_t0, ↓oLt_ii, ↓oLe_ii, ↓oGt_ii, ↓oGe_ii, ↓oSub_ii, ↓oAdd_ii, ↓u_lenT, ↓u_lenL, ↓u_isnon, ↓u_ixtup0, ↓u_ixlst0, ↓u_ixtup1, ↓u_ixlst1, ↓u_ixtup2, ↓u_ixlst2, ↓u_ixtup3, ↓u_ixlst3, ↓u_ixtup4, ↓u_ixlst4, ↓u_ixtup5, ↓u_ixlst5, ↓u_v0, ↓u_s0, ↓u_v1, ↓u_s1, ↓u_v2, ↓u_s2, ↓u_v3, ↓u_s3, ↓u_v4, ↓u_s4, ↓u_v5, ↓u_s5, ↓u_v6, ↓u_s6, ↓u_v7, ↓u_s7, ↓u_v8, ↓u_s8, ↓u_v9, ↓u_s9, ↓u_v10, ↓u_s10, ↓u_v11, ↓u_s11, ↓u_v12, ↓u_s12, ↓u_v13, ↓u_s13, ↓u_v14, ↓u_s14, ↓u_v15, ↓u_s15, ↓u_v16, ↓u_s16, ↓u_v17, ↓u_s17, ↓u_v18, ↓u_s18, ↓u_v19, ↓u_s19, if_true, if_false, Bool.false_eq_true, Bool.not_true, Bool.not_false, Bool.true_and, Bool.false_and, Bool.and_true, Bool.and_false, Bool.or_true, Bool.or_false, Bool.true_or, Bool.false_or, true_and, and_true, Option.isSome_some, List.length_cons, List.length_nil, ofS_beq, String.reduceBEq]; exact q') (by omega) (by omega) ?_
  refine loop_rest (fun rest ρ S1 => ∃ (x5 x6 x7 : Option T) (bs : List T), ρ = [some (T.ref a), some (.int (1 + i)), some (.ref p), some (.ref c), some (.ref e), x5, x6, x7] ∧ S1 p = some (.lst bs) ∧ S1 c = some (.dK (fD formsL)) ∧ S1 e = some (.dK (fD endsL)) ∧ bs.length + rest.length = (1 + i).toNat ∧ (∀ x ∈ bs, GB x) ∧ Dk a b S1 ∧ Kp a b S S1) ⟨_, _, _, [], rfl, hp3, hc3, he3, by rw [rng_len]; simp, by simp, d3, k3⟩ ?_ ?_
  · rintro t rest ρ S1 ⟨x5, x6, x7, bs, rfl, g1, g2, g3, g4, g5, g6, g7⟩
    rw [List.length_cons] at g4
    refine ⟨_, rfl, fun nx hnx => ?_⟩
    show sSeq _ _ _ [some (T.ref a), some (.int (1 + i)), some (.ref p), some (.ref c), some (.ref e), some t, x6, x7] S1
    simp only [↓u_sRet, ↓u_sRetN, ↓u_sNext, ↓u_sBrk, ↓u_sCont, ↓u_sSeq, ↓u_sDrop, ↓u_sIf, ↓u_wNil, ↓u_wCons, ↓u_wTup, ↓u_wLst, ↓u_wTst, ↓u_wTru, ↓u_wAnd, ↓u_wOr, ↓u_wNot, ↓u_wAndV, ↓u_wOrV, ↓u_wNotV, ↓u_wIfE, ↓u_wC, ↓u_wOp, ↓u_wUn, ↓u_wCall, ↓u_wChain, ↓u_wIsi, ↓u_wPart, ↓u_wNoPart, ↓u_wSl, ↓u_slT, ↓u_slL, ↓u_wMeth, ↓u_wKGet, ↓u_wInK, ↓u_sAsg, ↓u_exbl, ↓u_exint, ↓u_exstr, ↓u_exref, ↓u_exsome, ↓u_trubl, ↓u_truint, ↓u_trunon, ↓u_trulst, ↓u_trutup, ↓oEq_ss, ↓oEq_ii, ↓oEq_bb, ↓oEq_ni, ↓oNe_ss, ↓oNe_ii, ↓oNe_bb, ↓oEq_l0, ↓oNe_l0, ↓oEq_t0, ↓oNe_t0, ↓oLt_ii, ↓oLe_ii, ↓oGt_ii, ↓oGe_ii, ↓oSub_ii, ↓oAdd_ii, ↓u_lenT, ↓u_lenL, ↓u_isnon, ↓u_ixtup0, ↓u_ixlst0, ↓u_ixtup1, ↓u_ixlst1, ↓u_ixtup2, ↓u_ixlst2, ↓u_ixtup3, ↓u_ixlst3, ↓u_ixtup4, ↓u_ixlst4, ↓u_ixtup5, ↓u_ixlst5, ↓u_v0, ↓u_s0, ↓u_v1, ↓u_s1, ↓u_v2, ↓u_s2, ↓u_v3, ↓u_s3, ↓u_v4, ↓u_s4, ↓u_v5, ↓u_s5, ↓u_v6, ↓u_s6, ↓u_v7, ↓u_s7, ↓u_v8, ↓u_s8, ↓u_v9, ↓u_s9, ↓u_v10, ↓u_s10, ↓u_v11, ↓u_s11, ↓u_v12, ↓u_s12, ↓u_v13, ↓u_s13, ↓u_v14, ↓u_s14, ↓u_v15, ↓u_s15, ↓u_v16, ↓u_s16, ↓u_v17, ↓u_s17, ↓u_v18, ↓u_s18, ↓u_v19, ↓u_s19, if_true, if_false, Bool.false_eq_true, Bool.not_true, Bool.not_false, Bool.true_and, Bool.false_and, Bool.and_true, Bool.and_false, Bool.or_true, Bool.or_false, Bool.true_or, Bool.false_or, true_and, and_true, Option.isSome_some, List.length_cons, List.length_nil, ofS_beq, String.reduceBEq]
    unfold wLc wRng1
    simp only [↓u_sRet, ↓u_sRetN, ↓u_sNext, ↓u_sBrk, ↓u_sCont, ↓u_sSeq, ↓u_sDrop, ↓u_sIf, ↓u_wNil, ↓u_wCons, ↓u_wTup, ↓u_wLst, ↓u_wTst, ↓u_wTru, ↓u_wAnd, ↓u_wOr, ↓u_wNot, ↓u_wAndV, ↓u_wOrV, ↓u_wNotV, ↓u_wIfE, ↓u_wC, ↓u_wOp, ↓u_wUn, ↓u_wCall, ↓u_wChain, ↓u_wIsi, ↓u_wPart, ↓u_wNoPart, ↓u_wSl, ↓u_slT, ↓u_slL, ↓u_wMeth, ↓u_wKGet, ↓u_wInK, ↓u_sAsg, ↓u_exbl, ↓u_exint, ↓u_exstr, ↓u_exref, ↓u_exsome, ↓u_trubl, ↓u_truint, ↓u_trunon, ↓u_trulst, ↓u_trutup, ↓oEq_ss, ↓oEq_ii, ↓oEq_bb, ↓oEq_ni, ↓oNe_ss, ↓oNe_ii, ↓oNe_bb, ↓oEq_l0, ↓oNe_l0, ↓oEq_t0, ↓oNe_t0, ↓oLt_ii, ↓oLe_ii, ↓oGt_ii, ↓oGe_ii, ↓oSub_ii, ↓oAdd_ii, ↓u_lenT, ↓u_lenL, ↓u_isnon, ↓u_ixtup0, ↓u_ixlst0, ↓u_ixtup1, ↓u_ixlst1, ↓u_ixtup2, ↓u_ixlst2, ↓u_ixtup3, ↓u_ixlst3, ↓u_ixtup4, ↓u_ixlst4, ↓u_ixtup5, ↓u_ixlst5, ↓u_v0, ↓u_s0, ↓u_v1, ↓u_s1, ↓u_v2, ↓u_s2, ↓u_v3, ↓u_s3, ↓u_v4, ↓u_s4, ↓u_v5, ↓u_s5, ↓u_v6, ↓u_s6, ↓u_v7, ↓u_s7, ↓u_v8, ↓u_s8, ↓u_v9, ↓u_s9, ↓u_v10, ↓u_s10, ↓u_v11, ↓u_s11, ↓u_v12, ↓u_s12, ↓u_v13, ↓u_s13, ↓u_v14, ↓u_s14, ↓u_v15, ↓u_s15, ↓u_v16, ↓u_s16, ↓u_v17, ↓u_s17, ↓u_v18, ↓u_s18, ↓u_v19, ↓u_s19, if_true, if_false, Bool.false_eq_true, Bool.not_true, Bool.not_false, Bool.true_and, Bool.false_and, Bool.and_true, Bool.and_false, Bool.or_true, Bool.or_false, Bool.true_or, Bool.false_or, true_and, and_true, Option.isSome_some, List.length_cons, List.length_nil, ofS_beq, String.reduceBEq]
    refine draw_of g6 (by decide) (by decide) fun r S4 r0 r1 d4 k4 => ?_
    refine ⟨r, rfl, by omega, by omega, by rw [rng_len]; omega, ?_⟩
    refine lc_inv (fun acc S' => (∀ x ∈ acc, GA x) ∧ Dk a b S' ∧ Kp a b S1 S') ⟨by simp, d4, k4⟩ ?_ ?_
    · rintro t' ht acc S' ⟨h1, h2, h3⟩
      refine ⟨_, rfl, fun R' hR' => ?_⟩
      show wCall sp_law_built _ [some (T.ref a), some (.int (1 + i)), some (.ref p), some (.ref c), some (.ref e), some t, x6, some t'] S' R'
      simp only [↓u_sRet, ↓u_sRetN, ↓u_sNext, ↓u_sBrk, ↓u_sCont, ↓u_sSeq, ↓u_sDrop, ↓u_sIf, ↓u_wNil, ↓u_wCons, ↓u_wTup, ↓u_wLst, ↓u_wTst, ↓u_wTru, ↓u_wAnd, ↓u_wOr, ↓u_wNot, ↓u_wAndV, ↓u_wOrV, ↓u_wNotV, ↓u_wIfE, ↓u_wC, ↓u_wOp, ↓u_wUn, ↓u_wCall, ↓u_wChain, ↓u_wIsi, ↓u_wPart, ↓u_wNoPart, ↓u_wSl, ↓u_slT, ↓u_slL, ↓u_wMeth, ↓u_wKGet, ↓u_wInK, ↓u_sAsg, ↓u_exbl, ↓u_exint, ↓u_exstr, ↓u_exref, ↓u_exsome, ↓u_trubl, ↓u_truint, ↓u_trunon, ↓u_trulst, ↓u_trutup, ↓oEq_ss, ↓oEq_ii, ↓oEq_bb, ↓oEq_ni, ↓oNe_ss, ↓oNe_ii, ↓oNe_bb, ↓oEq_l0, ↓oNe_l0, ↓oEq_t0, ↓oNe_t0, ↓oLt_ii, ↓oLe_ii, ↓oGt_ii, ↓oGe_ii, ↓oSub_ii, ↓oAdd_ii, ↓u_lenT, ↓u_lenL, ↓u_isnon, ↓u_ixtup0, ↓u_ixlst0, ↓u_ixtup1, ↓u_ixlst1, ↓u_ixtup2, ↓u_ixlst2, ↓u_ixtup3, ↓u_ixlst3, ↓u_ixtup4, ↓u_ixlst4, ↓u_ixtup5, ↓u_ixlst5, ↓u_v0, ↓u_s0, ↓u_v1, ↓u_s1, ↓u_v2, ↓u_s2, ↓u_v3, ↓u_s3, ↓u_v4, ↓u_s4, ↓u_v5, ↓u_s5, ↓u_v6, ↓u_s6, ↓u_v7, ↓u_s7, ↓u_v8, ↓u_s8, ↓u_v9, ↓u_s9, ↓u_v10, ↓u_s10, ↓u_v11, ↓u_s11, ↓u_v12, ↓u_s12, ↓u_v13, ↓u_s13, ↓u_v14, ↓u_s14, ↓u_v15, ↓u_s15, ↓u_v16, ↓u_s16, ↓u_v17, ↓u_s17, ↓u_v18, ↓u_s18, ↓u_v19, ↓u_s19, if_true, if_false, Bool.false_eq_true, Bool.not_true, Bool.not_false, Bool.true_and, Bool.false_and, Bool.and_true, Bool.and_false, Bool.or_true, Bool.or_false, Bool.true_or, Bool.false_or, true_and, and_true, Option.isSome_some, List.length_cons, List.length_nil, ofS_beq, String.reduceBEq]
      refine ⟨a, b, c, _, formsL, rfl, h2, h3 _ _ nc.1 nc.2 g2, fs_forms, by omega, by omega, fun w ks args S'' m1 m2 m3 m4 m5 => hR' _ _ ⟨fun x hx => ?_, m4, h3.trans m5⟩⟩
      rcases List.mem_append.mp hx with hx | hx
      · exact h1 x hx
      · have : x = .tup (.str w :: args) := by simpa using hx
        rw [this]
        have hw := fs_forms.2.2.2.2 _ (look_mem m1)
        have hk := (fs_forms.2.2.2.1 _ (look_mem m1)).1
        refine ga_tup (by simp; simp at hk; omega) fun y hy => ?_
        rcases List.mem_cons.mp hy with rfl | hy
        · exact ga_str (by simp at hw; omega)
        · exact m3 y hy
    · rintro acc S' hl ⟨h1, h2, h3⟩
      rw [rng_len, List.length_nil] at hl
      have f1 : S' p = some (.lst bs) := h3 _ _ np.1 np.2 g1
      have f3 : S' e = some (.dK (fD endsL)) := h3 _ _ ne.1 ne.2 g3
      have f2 : S' c = some (.dK (fD formsL)) := h3 _ _ nc.1 nc.2 g2
      simp only [↓u_sRet, ↓u_sRetN, ↓u_sNext, ↓u_sBrk, ↓u_sCont, ↓u_sSeq, ↓u_sDrop, ↓u_sIf, ↓u_wNil, ↓u_wCons, ↓u_wTup, ↓u_wLst, ↓u_wTst, ↓u_wTru, ↓u_wAnd, ↓u_wOr, ↓u_wNot, ↓u_wAndV, ↓u_wOrV, ↓u_wNotV, ↓u_wIfE, ↓u_wC, ↓u_wOp, ↓u_wUn, ↓u_wCall, ↓u_wChain, ↓u_wIsi, ↓u_wPart, ↓u_wNoPart, ↓u_wSl, ↓u_slT, ↓u_slL, ↓u_wMeth, ↓u_wKGet, ↓u_wInK, ↓u_sAsg, ↓u_exbl, ↓u_exint, ↓u_exstr, ↓u_exref, ↓u_exsome, ↓u_trubl, ↓u_truint, ↓u_trunon, ↓u_trulst, ↓u_trutup, ↓oEq_ss, ↓oEq_ii, ↓oEq_bb, ↓oEq_ni, ↓oNe_ss, ↓oNe_ii, ↓oNe_bb, ↓oEq_l0, ↓oNe_l0, ↓oEq_t0, ↓oNe_t0, ↓oLt_ii, ↓oLe_ii, ↓oGt_ii, ↓oGe_ii, ↓oSub_ii, ↓oAdd_ii, ↓u_lenT, ↓u_lenL, ↓u_isnon, ↓u_ixtup0, ↓u_ixlst0, ↓u_ixtup1, ↓u_ixlst1, ↓u_ixtup2, ↓u_ixlst2, ↓u_ixtup3, ↓u_ixlst3, ↓u_ixtup4, ↓u_ixlst4, ↓u_ixtup5, ↓u_ixlst5, ↓u_v0, ↓u_s0, ↓u_v1, ↓u_s1, ↓u_v2, ↓u_s2, ↓u_v3, ↓u_s3, ↓u_v4, ↓u_s4, ↓u_v5, ↓u_s5, ↓u_v6, ↓u_s6, ↓u_v7, ↓u_s7, ↓u_v8, ↓u_s8, ↓u_v9, ↓u_s9, ↓u_v10, ↓u_s10, ↓u_v11, ↓u_s11, ↓u_v12, ↓u_s12, ↓u_v13, ↓u_s13, ↓u_v14, ↓u_s14, ↓u_v15, ↓u_s15, ↓u_v16, ↓u_s16, ↓u_v17, ↓u_s17, ↓u_v18, ↓u_s18, ↓u_v19, ↓u_s19, if_true, if_false, Bool.false_eq_true, Bool.not_true, Bool.not_false, Bool.true_and, Bool.false_and, Bool.and_true, Bool.and_false, Bool.or_true, Bool.or_false, Bool.true_or, Bool.false_or, true_and, and_true, Option.isSome_some, List.length_cons, List.length_nil, ofS_beq, String.reduceBEq, ty_ref f1, ↓tuple_l (ts := acc) (show acc.length ≤ sizeLine by omega)]
      refine ⟨a, b, e, _, endsL, rfl, h2, f3, fs_ends, by omega, by omega, fun w ks args S'' m1 m2 m3 m4 m5 => ?_⟩
      refine ⟨by omega, ?_⟩
      have f1' : S'' p = some (.lst bs) := m5 _ _ np.1 np.2 f1
      show oAppend _ _ _ _
      rw [app_eq (l := bs) f1' (by omega)]
      refine hnx _ _ ⟨_, _, _, _, rfl, supd_same, by rw [supd_ne hcp]; exact m5 _ _ nc.1 nc.2 f2, by rw [supd_ne hep]; exact m5 _ _ ne.1 ne.2 f3, by rw [List.length_append, List.length_singleton]; omega, fun x hx => ?_, m4.upd np.1 np.2, ((g7.trans h3).trans m5).upd hp0⟩
      rcases List.mem_append.mp hx with hx | hx
      · exact g5 x hx
      · have : x = .tup [.tup acc, .tup (.str w :: args)] := by simpa using hx
        rw [this]
        refine ⟨acc, _, rfl, by omega, h1, ?_⟩
        have hw := fs_ends.2.2.2.2 _ (look_mem m1)
        have hk := (fs_ends.2.2.2.1 _ (look_mem m1)).1
        refine ga_tup (by simp; simp at hk; omega) fun y hy => ?_
        rcases List.mem_cons.mp hy with rfl | hy
        · exact ga_str (by simp at hw; omega)
        · exact m3 y hy
  · rintro ρ S1 ⟨x5, x6, x7, bs, rfl, g1, g2, g3, g4, g5, g6, g7⟩
    rw [List.length_nil] at g4
    simp only [↓u_sRet, ↓u_sRetN, ↓u_sNext, ↓u_sBrk, ↓u_sCont, ↓u_sSeq, ↓u_sDrop, ↓u_sIf, ↓u_wNil, ↓u_wCons, ↓u_wTup, ↓u_wLst, ↓u_wTst, ↓u_wTru, ↓u_wAnd, ↓u_wOr, ↓u_wNot, ↓u_wAndV, ↓u_wOrV, ↓u_wNotV, ↓u_wIfE, ↓u_wC, ↓u_wOp, ↓u_wUn, ↓u_wCall, ↓u_wChain, ↓u_wIsi, ↓u_wPart, ↓u_wNoPart, ↓u_wSl, ↓u_slT, ↓u_slL, ↓u_wMeth, ↓u_wKGet, ↓u_wInK, ↓u_sAsg, ↓u_exbl, ↓u_exint, ↓u_exstr, ↓u_exref, ↓u_exsome, ↓u_trubl, ↓u_truint, ↓u_trunon, ↓u_trulst, ↓u_trutup, ↓oEq_ss, ↓oEq_ii, ↓oEq_bb, ↓oEq_ni, ↓oNe_ss, ↓oNe_ii, ↓oNe_bb, ↓oEq_l0, ↓oNe_l0, ↓oEq_t0, ↓oNe_t0, ↓oLt_ii, ↓oLe_ii, ↓oGt_ii, ↓oGe_ii, ↓oSub_ii, ↓oAdd_ii, ↓u_lenT, ↓u_lenL, ↓u_isnon, ↓u_ixtup0, ↓u_ixlst0, ↓u_ixtup1, ↓u_ixlst1, ↓u_ixtup2, ↓u_ixlst2, ↓u_ixtup3, ↓u_ixlst3, ↓u_ixtup4, ↓u_ixlst4, ↓u_ixtup5, ↓u_ixlst5, ↓u_v0, ↓u_s0, ↓u_v1, ↓u_s1, ↓u_v2, ↓u_s2, ↓u_v3, ↓u_s3, ↓u_v4, ↓u_s4, ↓u_v5, ↓u_s5, ↓u_v6, ↓u_s6, ↓u_v7, ↓u_s7, ↓u_v8, ↓u_s8, ↓u_v9, ↓u_s9, ↓u_v10, ↓u_s10, ↓u_v11, ↓u_s11, ↓u_v12, ↓u_s12, ↓u_v13, ↓u_s13, ↓u_v14, ↓u_s14, ↓u_v15, ↓u_s15, ↓u_v16, ↓u_s16, ↓u_v17, ↓u_s17, ↓u_v18, ↓u_s18, ↓u_v19, ↓u_s19, if_true, if_false, Bool.false_eq_true, Bool.not_true, Bool.not_false, Bool.true_and, Bool.false_and, Bool.and_true, Bool.and_false, Bool.or_true, Bool.or_false, Bool.true_or, Bool.false_or, true_and, and_true, Option.isSome_some, List.length_cons, List.length_nil, ofS_beq, String.reduceBEq]
    refine draw_of g6 (by decide) (by decide) fun r S4 r0 r1 d4 k4 => ?_
    have f1 : S4 p = some (.lst bs) := k4 _ _ np.1 np.2 g1
    refine ⟨_, bs, rfl, by simp [seqT, f1], by omega, by omega, ?_⟩
    exact q _ _ ⟨r, bs, rfl, fun e => by rw [e] at g4; simp at g4; omega, by omega, g5⟩ d4 (g7.trans k4)
theorem rep_ga {x : T} {k : Nat} (h : k ≤ 10000) (g : GA x) : GA (.tup (List.replicate k [x]).flatten) := by
  refine ga_tup ?_ fun y hy => ?_
  · rw [len_rep]; simpa using h
  · obtain ⟨l, hl, hy⟩ := List.mem_flatten.mp hy
    rw [(List.mem_replicate.mp hl).2] at hy
    have : y = x := by simpa using hy
    rw [this]; exact g
theorem mulT_1 {x : T} {k : Int} {S : Sto} {R : Post} (h : 2 ≤ k ∧ k ≤ 10000) : (oMulT (.tup [x]) (.int k) S R) = (R (.tup (List.replicate k.toNat [x]).flatten) S) := propext ⟨fun ⟨xs, j, e1, e2, _, _, _, _, q⟩ => by cases e1; cases e2; exact q, fun q => ⟨[x], k, rfl, rfl, by simp, h.1, h.2, by simp, q⟩⟩
theorem u_sPar12 {wa wb : WE} {E : EndsT} {x0 y z : Option T} {l : Sl} {S : Sto} : (sPar 1 2 wa wb E (x0 :: y :: z :: l) S) = (wa (x0 :: y :: z :: l) S fun x S1 => wb (x0 :: y :: z :: l) S1 fun y S2 => E.nx (x0 :: some x :: some y :: l) S2) := rfl
theorem u_sPar23 {wa wb : WE} {E : EndsT} {x0 x1 y z : Option T} {l : Sl} {S : Sto} : (sPar 2 3 wa wb E (x0 :: x1 :: y :: z :: l) S) = (wa (x0 :: x1 :: y :: z :: l) S fun x S1 => wb (x0 :: x1 :: y :: z :: l) S1 fun y S2 => E.nx (x0 :: x1 :: some x :: some y :: l) S2) := rfl
theorem ok_law_great : ∀ ts S R, sp_law_great ts S R → w_law_great { nx := fun _ S' => R .non S', rt := R } (startT n_law_great ts) S := by
  rintro ts S R ⟨a, b, rfl, hd, q⟩
  rw [show startT n_law_great [.ref a] = [some (.ref a), none, none] from rfl]
  have q' : ∀ t S', GA t → Dk a b S' → Kp a b S S' → R t S' := fun t S' g => q t S' g.2
  unfold w_law_great
  have hsl := sizeLine_eq
  have s0 : 0 ≤ sizeLine := Nat.zero_le _
  have s1 : 0 + 1 ≤ sizeLine := by omega
  have s2 : 0 + 1 + 1 ≤ sizeLine := by omega
  simp only [↓u_sRet, ↓u_sRetN, ↓u_sNext, ↓u_sBrk, ↓u_sCont, ↓u_sSeq, ↓u_sDrop, ↓u_sIf, ↓u_wNil, ↓u_wCons, ↓u_wTup, ↓u_wLst, ↓u_wTst, ↓u_wTru, ↓u_wAnd, ↓u_wOr, ↓u_wNot, ↓u_wAndV, ↓u_wOrV, ↓u_wNotV, ↓u_wIfE, ↓u_wC, ↓u_wOp, ↓u_wUn, ↓u_wCall, ↓u_wChain, ↓u_wIsi, ↓u_wPart, ↓u_wNoPart, ↓u_wSl, ↓u_slT, ↓u_slL, ↓u_wMeth, ↓u_wKGet, ↓u_wInK, ↓u_sAsg, ↓u_exbl, ↓u_exint, ↓u_exstr, ↓u_exref, ↓u_exsome, ↓u_trubl, ↓u_truint, ↓u_trunon, ↓u_trulst, ↓u_trutup, ↓oEq_ss, ↓oEq_ii, ↓oEq_bb, ↓oEq_ni, ↓oNe_ss, ↓oNe_ii, ↓oNe_bb, ↓oEq_l0, ↓oNe_l0, ↓oEq_t0, ↓oNe_t0, ↓oLt_ii, ↓oLe_ii, ↓oGt_ii, ↓oGe_ii, ↓oSub_ii, ↓oAdd_ii, ↓u_lenT, ↓u_lenL, ↓u_isnon, ↓u_ixtup0, ↓u_ixlst0, ↓u_ixtup1, ↓u_ixlst1, ↓u_ixtup2, ↓u_ixlst2, ↓u_ixtup3, ↓u_ixlst3, ↓u_ixtup4, ↓u_ixlst4, ↓u_ixtup5, ↓u_ixlst5, ↓u_v0, ↓u_s0, ↓u_v1, ↓u_s1, ↓u_v2, ↓u_s2, ↓u_v3, ↓u_s3, ↓u_v4, ↓u_s4, ↓u_v5, ↓u_s5, ↓u_v6, ↓u_s6, ↓u_v7, ↓u_s7, ↓u_v8, ↓u_s8, ↓u_v9, ↓u_s9, ↓u_v10, ↓u_s10, ↓u_v11, ↓u_s11, ↓u_v12, ↓u_s12, ↓u_v13, ↓u_s13, ↓u_v14, ↓u_s14, ↓u_v15, ↓u_s15, ↓u_v16, ↓u_s16, ↓u_v17, ↓u_s17, ↓u_v18, ↓u_s18, ↓u_v19, ↓u_s19, if_true, if_false, Bool.false_eq_true, Bool.not_true, Bool.not_false, Bool.true_and, Bool.false_and, Bool.and_true, Bool.and_false, Bool.or_true, Bool.or_false, Bool.true_or, Bool.false_or, true_and, and_true, Option.isSome_some, List.length_cons, List.length_nil, ofS_beq, String.reduceBEq, ↓u_sPar12]
  refine draw_of hd (by decide) (by decide) fun i S1 i0 i1 d1 k1 => ?_
  refine ⟨s2, draw_of d1 (by decide) (by decide) fun j S2 j0 j1 d2 k2 => ?_⟩
  simp only [↓u_sRet, ↓u_sRetN, ↓u_sNext, ↓u_sBrk, ↓u_sCont, ↓u_sSeq, ↓u_sDrop, ↓u_sIf, ↓u_wNil, ↓u_wCons, ↓u_wTup, ↓u_wLst, ↓u_wTst, ↓u_wTru, ↓u_wAnd, ↓u_wOr, ↓u_wNot, ↓u_wAndV, ↓u_wOrV, ↓u_wNotV, ↓u_wIfE, ↓u_wC, ↓u_wOp, ↓u_wUn, ↓u_wCall, ↓u_wChain, ↓u_wIsi, ↓u_wPart, ↓u_wNoPart, ↓u_wSl, ↓u_slT, ↓u_slL, ↓u_wMeth, ↓u_wKGet, ↓u_wInK, ↓u_sAsg, ↓u_exbl, ↓u_exint, ↓u_exstr, ↓u_exref, ↓u_exsome, ↓u_trubl, ↓u_truint, ↓u_trunon, ↓u_trulst, ↓u_trutup, ↓oEq_ss, ↓oEq_ii, ↓oEq_bb, ↓oEq_ni, ↓oNe_ss, ↓oNe_ii, ↓oNe_bb, ↓oEq_l0, ↓oNe_l0, ↓oEq_t0, ↓oNe_t0, ↓oLt_ii, ↓oLe_ii, ↓oGt_ii, ↓oGe_ii, ↓oSub_ii, ↓oAdd_ii, ↓u_lenT, ↓u_lenL, ↓u_isnon, ↓u_ixtup0, ↓u_ixlst0, ↓u_ixtup1, ↓u_ixlst1, ↓u_ixtup2, ↓u_ixlst2, ↓u_ixtup3, ↓u_ixlst3, ↓u_ixtup4, ↓u_ixlst4, ↓u_ixtup5, ↓u_ixlst5, ↓u_v0, ↓u_s0, ↓u_v1, ↓u_s1, ↓u_v2, ↓u_s2, ↓u_v3, ↓u_s3, ↓u_v4, ↓u_s4, ↓u_v5, ↓u_s5, ↓u_v6, ↓u_s6, ↓u_v7, ↓u_s7, ↓u_v8, ↓u_s8, ↓u_v9, ↓u_s9, ↓u_v10, ↓u_s10, ↓u_v11, ↓u_s11, ↓u_v12, ↓u_s12, ↓u_v13, ↓u_s13, ↓u_v14, ↓u_s14, ↓u_v15, ↓u_s15, ↓u_v16, ↓u_s16, ↓u_v17, ↓u_s17, ↓u_v18, ↓u_s18, ↓u_v19, ↓u_s19, if_true, if_false, Bool.false_eq_true, Bool.not_true, Bool.not_false, Bool.true_and, Bool.false_and, Bool.and_true, Bool.and_false, Bool.or_true, Bool.or_false, Bool.true_or, Bool.false_or, true_and, and_true, Option.isSome_some, List.length_cons, List.length_nil, ofS_beq, String.reduceBEq]
  refine draw_of d2 (by decide) (by decide) fun r S3 r0 r1 d3 k3 => ?_
  simp only [↓u_sRet, ↓u_sRetN, ↓u_sNext, ↓u_sBrk, ↓u_sCont, ↓u_sSeq, ↓u_sDrop, ↓u_sIf, ↓u_wNil, ↓u_wCons, ↓u_wTup, ↓u_wLst, ↓u_wTst, ↓u_wTru, ↓u_wAnd, ↓u_wOr, ↓u_wNot, ↓u_wAndV, ↓u_wOrV, ↓u_wNotV, ↓u_wIfE, ↓u_wC, ↓u_wOp, ↓u_wUn, ↓u_wCall, ↓u_wChain, ↓u_wIsi, ↓u_wPart, ↓u_wNoPart, ↓u_wSl, ↓u_slT, ↓u_slL, ↓u_wMeth, ↓u_wKGet, ↓u_wInK, ↓u_sAsg, ↓u_exbl, ↓u_exint, ↓u_exstr, ↓u_exref, ↓u_exsome, ↓u_trubl, ↓u_truint, ↓u_trunon, ↓u_trulst, ↓u_trutup, ↓oEq_ss, ↓oEq_ii, ↓oEq_bb, ↓oEq_ni, ↓oNe_ss, ↓oNe_ii, ↓oNe_bb, ↓oEq_l0, ↓oNe_l0, ↓oEq_t0, ↓oNe_t0, ↓oLt_ii, ↓oLe_ii, ↓oGt_ii, ↓oGe_ii, ↓oSub_ii, ↓oAdd_ii, ↓u_lenT, ↓u_lenL, ↓u_isnon, ↓u_ixtup0, ↓u_ixlst0, ↓u_ixtup1, ↓u_ixlst1, ↓u_ixtup2, ↓u_ixlst2, ↓u_ixtup3, ↓u_ixlst3, ↓u_ixtup4, ↓u_ixlst4, ↓u_ixtup5, ↓u_ixlst5, ↓u_v0, ↓u_s0, ↓u_v1, ↓u_s1, ↓u_v2, ↓u_s2, ↓u_v3, ↓u_s3, ↓u_v4, ↓u_s4, ↓u_v5, ↓u_s5, ↓u_v6, ↓u_s6, ↓u_v7, ↓u_s7, ↓u_v8, ↓u_s8, ↓u_v9, ↓u_s9, ↓u_v10, ↓u_s10, ↓u_v11, ↓u_s11, ↓u_v12, ↓u_s12, ↓u_v13, ↓u_s13, ↓u_v14, ↓u_s14, ↓u_v15, ↓u_s15, ↓u_v16, ↓u_s16, ↓u_v17, ↓u_s17, ↓u_v18, ↓u_s18, ↓u_v19, ↓u_s19, if_true, if_false, Bool.false_eq_true, Bool.not_true, Bool.not_false, Bool.true_and, Bool.false_and, Bool.and_true, Bool.and_false, Bool.or_true, Bool.or_false, Bool.true_or, Bool.false_or, true_and, and_true, Option.isSome_some, List.length_cons, List.length_nil, ofS_beq, String.reduceBEq]
  split
  · simp only [↓u_sRet, ↓u_sRetN, ↓u_sNext, ↓u_sBrk, ↓u_sCont, ↓u_sSeq, ↓u_sDrop, ↓u_sIf, ↓u_wNil, ↓u_wCons, ↓u_wTup, ↓u_wLst, ↓u_wTst, ↓u_wTru, ↓u_wAnd, ↓u_wOr, ↓u_wNot, ↓u_wAndV, ↓u_wOrV, ↓u_wNotV, ↓u_wIfE, ↓u_wC, ↓u_wOp, ↓u_wUn, ↓u_wCall, ↓u_wChain, ↓u_wIsi, ↓u_wPart, ↓u_wNoPart, ↓u_wSl, ↓u_slT, ↓u_slL, ↓u_wMeth, ↓u_wKGet, ↓u_wInK, ↓u_sAsg, ↓u_exbl, ↓u_exint, ↓u_exstr, ↓u_exref, ↓u_exsome, ↓u_trubl, ↓u_truint, ↓u_trunon, ↓u_trulst, ↓u_trutup, ↓oEq_ss, ↓oEq_ii, ↓oEq_bb, ↓oEq_ni, ↓oNe_ss, ↓oNe_ii, ↓oNe_bb, ↓oEq_l0, ↓oNe_l0, ↓oEq_t0, ↓oNe_t0, ↓oLt_ii, ↓oLe_ii, ↓oGt_ii, ↓oGe_ii, ↓oSub_ii, ↓oAdd_ii, ↓u_lenT, ↓u_lenL, ↓u_isnon, ↓u_ixtup0, ↓u_ixlst0, ↓u_ixtup1, ↓u_ixlst1, ↓u_ixtup2, ↓u_ixlst2, ↓u_ixtup3, ↓u_ixlst3, ↓u_ixtup4, ↓u_ixlst4, ↓u_ixtup5, ↓u_ixlst5, ↓u_v0, ↓u_s0, ↓u_v1, ↓u_s1, ↓u_v2, ↓u_s2, ↓u_v3, ↓u_s3, ↓u_v4, ↓u_s4, ↓u_v5, ↓u_s5, ↓u_v6, ↓u_s6, ↓u_v7, ↓u_s7, ↓u_v8, ↓u_s8, ↓u_v9, ↓u_s9, ↓u_v10, ↓u_s10, ↓u_v11, ↓u_s11, ↓u_v12, ↓u_s12, ↓u_v13, ↓u_s13, ↓u_v14, ↓u_s14, ↓u_v15, ↓u_s15, ↓u_v16, ↓u_s16, ↓u_v17, ↓u_s17, ↓u_v18, ↓u_s18, ↓u_v19, ↓u_s19, if_true, if_false, Bool.false_eq_true, Bool.not_true, Bool.not_false, Bool.true_and, Bool.false_and, Bool.and_true, Bool.and_false, Bool.or_true, Bool.or_false, Bool.true_or, Bool.false_or, true_and, and_true, Option.isSome_some, List.length_cons, List.length_nil, ofS_beq, String.reduceBEq, s1, s2, mulT_1 (show 2 ≤ 2000 + j - 1 ∧ 2000 + j - 1 ≤ 10000 by omega)]
    refine q' _ _ ?_ d3 ((k1.trans k2).trans k3)
    refine ga_two (ga_int 0) (ga_tup (by simp) fun y hy => ?_)
    rw [List.mem_singleton.mp hy]
    exact ga_two (rep_ga (by omega) (ga_two (ga_str (by decide +kernel)) (ga_int i))) (ga_two (ga_str (by decide +kernel)) ga_non)
  · simp only [↓u_sRet, ↓u_sRetN, ↓u_sNext, ↓u_sBrk, ↓u_sCont, ↓u_sSeq, ↓u_sDrop, ↓u_sIf, ↓u_wNil, ↓u_wCons, ↓u_wTup, ↓u_wLst, ↓u_wTst, ↓u_wTru, ↓u_wAnd, ↓u_wOr, ↓u_wNot, ↓u_wAndV, ↓u_wOrV, ↓u_wNotV, ↓u_wIfE, ↓u_wC, ↓u_wOp, ↓u_wUn, ↓u_wCall, ↓u_wChain, ↓u_wIsi, ↓u_wPart, ↓u_wNoPart, ↓u_wSl, ↓u_slT, ↓u_slL, ↓u_wMeth, ↓u_wKGet, ↓u_wInK, ↓u_sAsg, ↓u_exbl, ↓u_exint, ↓u_exstr, ↓u_exref, ↓u_exsome, ↓u_trubl, ↓u_truint, ↓u_trunon, ↓u_trulst, ↓u_trutup, ↓oEq_ss, ↓oEq_ii, ↓oEq_bb, ↓oEq_ni, ↓oNe_ss, ↓oNe_ii, ↓oNe_bb, ↓oEq_l0, ↓oNe_l0, ↓oEq_t0, ↓oNe_t0, ↓oLt_ii, ↓oLe_ii, ↓oGt_ii, ↓oGe_ii, ↓oSub_ii, ↓oAdd_ii, ↓u_lenT, ↓u_lenL, ↓u_isnon, ↓u_ixtup0, ↓u_ixlst0, ↓u_ixtup1, ↓u_ixlst1, ↓u_ixtup2, ↓u_ixlst2, ↓u_ixtup3, ↓u_ixlst3, ↓u_ixtup4, ↓u_ixlst4, ↓u_ixtup5, ↓u_ixlst5, ↓u_v0, ↓u_s0, ↓u_v1, ↓u_s1, ↓u_v2, ↓u_s2, ↓u_v3, ↓u_s3, ↓u_v4, ↓u_s4, ↓u_v5, ↓u_s5, ↓u_v6, ↓u_s6, ↓u_v7, ↓u_s7, ↓u_v8, ↓u_s8, ↓u_v9, ↓u_s9, ↓u_v10, ↓u_s10, ↓u_v11, ↓u_s11, ↓u_v12, ↓u_s12, ↓u_v13, ↓u_s13, ↓u_v14, ↓u_s14, ↓u_v15, ↓u_s15, ↓u_v16, ↓u_s16, ↓u_v17, ↓u_s17, ↓u_v18, ↓u_s18, ↓u_v19, ↓u_s19, if_true, if_false, Bool.false_eq_true, Bool.not_true, Bool.not_false, Bool.true_and, Bool.false_and, Bool.and_true, Bool.and_false, Bool.or_true, Bool.or_false, Bool.true_or, Bool.false_or, true_and, and_true, Option.isSome_some, List.length_cons, List.length_nil, ofS_beq, String.reduceBEq, s0, s1, s2, mulT_1 (show 2 ≤ 2000 + j ∧ 2000 + j ≤ 10000 by omega)]
    refine q' _ _ ?_ d3 ((k1.trans k2).trans k3)
    exact ga_two (ga_int 0) (rep_ga (by omega) (ga_two (ga_tup (by simp) (by simp)) (ga_two (ga_str (by decide +kernel)) (ga_int _))))
/-! ### wrong parts -/
mutual
def gaB : T → Bool
  | .non => true | .bl _ => true | .int _ => true | .lst _ => true | .ref _ => false | .arg _ => false
  | .str z => decide (z.length ≤ 1000)
  | .tup ts => decide (ts.length ≤ 10000) && gaL ts
def gaL : List T → Bool
  | [] => true
  | t :: ts => gaB t && gaL ts
end
mutual
theorem ga_of : ∀ {t : T}, gaB t = true → GA t
  | .non, _ => ga_non
  | .bl _, _ => ⟨rfl, fun S => by simp only [GT]⟩
  | .int i, _ => ga_int i
  | .lst _, _ => ⟨rfl, fun S => by simp only [GT]⟩
  | .ref _, h => by simp [gaB] at h
  | .arg _, h => by simp [gaB] at h
  | .str z, h => ga_str (by simpa [gaB] using h)
  | .tup ts, h => by
    simp only [gaB, Bool.and_eq_true, decide_eq_true_eq] at h
    exact ga_tup h.1 (gal_of h.2)
theorem gal_of : ∀ {ts : List T}, gaL ts = true → ∀ x ∈ ts, GA x
  | [], _, x, hx => by simp at hx
  | t :: ts, h, x, hx => by
    simp only [gaL, Bool.and_eq_true] at h
    rcases List.mem_cons.mp hx with e | hx
    · rw [e]; exact ga_of h.1
    · exact gal_of h.2 x hx
end
theorem neg_i {i : Int} {S : Sto} {R : Post} : (oNeg (.int i) S R) = (R (.int (-i)) S) := rfl
mutual
theorem gt_mono {S S' : Sto} (h : ∀ z, S z = some (.dK []) → S' z = some (.dK [])) : ∀ {t : T}, GT S t → GT S' t
  | .ref a, g => by simp only [GT] at g ⊢; exact h _ g
  | .str z, g => by simpa only [GT] using g
  | .arg _, g => by simp only [GT] at g
  | .tup ts, g => by
    simp only [GT] at g ⊢
    exact ⟨g.1, gts_mono h g.2⟩
  | .lst _, _ => by simp only [GT]
  | .non, _ => by simp only [GT]
  | .bl _, _ => by simp only [GT]
  | .int _, _ => by simp only [GT]
theorem gts_mono {S S' : Sto} (h : ∀ z, S z = some (.dK []) → S' z = some (.dK [])) : ∀ {ts : List T} {i : Nat}, GTs S i ts → GTs S' i ts
  | [], _, _ => by simp only [GTs]
  | t :: ts, i, g => by
    simp only [GTs] at g ⊢
    exact ⟨g.1, gt_mono h g.2.1, gts_mono h g.2.2⟩
end
theorem okW_ga {k : Str} {S : Sto} {x : T} (h : GA x) : okW k S x := ⟨h.2 S, fun _ => h.1⟩
theorem val_put {k k' : Key} {v : T} : ∀ {kvs : List (Key × T)}, valT (putT kvs k v) k' = if k' = k then some v else valT kvs k' := by
  intro kvs
  unfold putT
  split
  · next h =>
    induction kvs with
    | nil => simp at h
    | cons p kvs ih =>
      obtain ⟨q, u⟩ := p
      by_cases e : q = k
      · subst e
        by_cases e2 : k' = q
        · subst e2
          simp [valT]
        · have e3 : ¬ q = k' := fun z => e2 z.symm
          rw [if_neg e2]
          simp only [List.map_cons, if_true, valT, List.find?_cons, decide_eq_false e3]
          have key : ∀ l : List (Key × T), Option.map (fun x => x.snd) (List.find? (fun kv => decide (kv.fst = k')) (List.map (fun kv => if kv.fst = q then (kv.fst, v) else kv) l)) = Option.map (fun x => x.snd) (List.find? (fun kv => decide (kv.fst = k')) l) := by
            intro l
            induction l with
            | nil => rfl
            | cons p l ih2 =>
              obtain ⟨r, w⟩ := p
              rw [List.map_cons]
              by_cases e4 : r = q
              · subst e4
                simp only [if_true, List.find?_cons, decide_eq_false e3]
                exact ih2
              · simp only [e4, if_false, List.find?_cons]
                by_cases e5 : r = k'
                · simp [e5]
                · simp only [decide_eq_false e5]
                  exact ih2
          exact key kvs
      · have h' : (kvs.any fun kv => decide (kv.fst = k)) = true := by simpa [e] using h
        have := ih h'
        simp only [List.map_cons, e, if_false]
        by_cases e2 : q = k'
        · subst e2
          rw [if_neg e]
          simp [valT]
        · have e3 : valT ((q, u) :: List.map (fun kv => if kv.fst = k then (kv.fst, v) else kv) kvs) k' = valT (List.map (fun kv => if kv.fst = k then (kv.fst, v) else kv) kvs) k' := by simp [valT, e2]
          have e4 : valT ((q, u) :: kvs) k' = valT kvs k' := by simp [valT, e2]
          rw [e3, e4]
          exact this
  · next h =>
    have hk : ∀ p ∈ kvs, p.1 ≠ k := fun p hp e => h (List.any_eq_true.mpr ⟨p, hp, decide_eq_true e⟩)
    unfold valT
    rw [List.find?_append]
    by_cases e : k' = k
    · subst e
      have : List.find? (fun kv => decide (kv.fst = k')) kvs = none := by
        rw [List.find?_eq_none]
        intro p hp
        simpa using hk p hp
      simp [this]
    · rw [if_neg e]
      have : List.find? (fun kv : Key × T => decide (kv.fst = k')) [(k, v)] = none := by
        simpa using fun z : k = k' => e z.symm
      rw [this]
      simp
theorem put_len {k : Key} {v : T} {kvs : List (Key × T)} : (putT kvs k v).length ≤ kvs.length + 1 := by
  unfold putT
  split
  · simp
  · simp
def WrN (n : Nat) (S : Sto) (ks : List Str) (kvs : List (Key × T)) : Prop := kvs.length ≤ n ∧ kvs ≠ [] ∧ ∀ k ∈ ks, ∃ xs, valT kvs (.inr k) = some (.lst xs) ∧ xs.length ≤ 20 * n ∧ ∀ x ∈ xs, okW k S x
theorem put_ne {k : Key} {v : T} {kvs : List (Key × T)} : putT kvs k v ≠ [] := by
  unfold putT
  split
  · next h =>
    intro e
    have : kvs = [] := by simpa using e
    rw [this] at h
    simp at h
  · simp
theorem put_fin {n : Nat} {S : Sto} {c : Addr} {ks : List Str} {kvs : List (Key × T)} {k : Str} {xs : List T} {nx : Sto → Prop} (hS : S c = some (.dK kvs)) (hW : WrN n S ks kvs) (hn : n ≤ 90) (hl : xs.length ≤ 20 * (n + 1)) (hx : ∀ x ∈ xs, okW k S x)
    (q : ∀ S' kvs', S' c = some (.dK kvs') → WrN (n + 1) S' (k :: ks) kvs' → (∀ x, x ≠ c → S' x = S x) → nx S') : ∃ a c', T.ref c = T.ref a ∧ dPutT0 S a (.str k) (.lst xs) = some c' ∧ nx (supd S a c') := by
  have hsl := sizeLine_eq
  refine ⟨c, .dK (putT kvs (.inr k) (.lst xs)), rfl, ?_, ?_⟩
  · unfold dPutT0
    rw [hS]
    simp only [keyT, Option.map_some]
    rw [if_pos (by have := hW.1; omega)]
  · have st : ∀ x, okW k S x → okW k (supd S c (.dK (putT kvs (.inr k) (.lst xs)))) x := fun x h => ⟨gt_mono (fun z hz => by
      have : z ≠ c := fun e => by rw [e, hS] at hz; cases hz; exact hW.2.1 rfl
      rw [supd_ne this]; exact hz) h.1, h.2⟩
    have st2 : ∀ k' x, okW k' S x → okW k' (supd S c (.dK (putT kvs (.inr k) (.lst xs)))) x := fun k' x h => ⟨gt_mono (fun z hz => by
      have : z ≠ c := fun e => by rw [e, hS] at hz; cases hz; exact hW.2.1 rfl
      rw [supd_ne this]; exact hz) h.1, h.2⟩
    refine q _ _ supd_same ⟨Nat.le_trans put_len (Nat.succ_le_succ hW.1), put_ne, fun k' hk' => ?_⟩ fun x hx => supd_ne hx
    rw [val_put]
    by_cases e : k' = k
    · subst e
      exact ⟨xs, if_pos rfl, hl, fun x h => st2 _ _ (hx x h)⟩
    · rw [if_neg (fun z => e (Sum.inr.inj z))]
      obtain ⟨ys, h1, h2, h3⟩ := hW.2.2 k' (by
        rcases List.mem_cons.mp hk' with h | h
        · exact absurd h e
        · exact h)
      exact ⟨ys, h1, by omega, fun x h => st2 _ _ (h3 x h)⟩
theorem gal_app : ∀ {xs ys : List T}, gaL (xs ++ ys) = (gaL xs && gaL ys)
  | [], ys => by simp [gaL]
  | x :: xs, ys => by
    rw [List.cons_append]
    simp only [gaL]
    rw [gal_app, Bool.and_assoc]
theorem wr_put {n : Nat} {S : Sto} {c : Addr} {ks : List Str} {kvs : List (Key × T)} {k : Str} {w : WE} {E : EndsT} {x0 x2 : Option T} (hS : S c = some (.dK kvs)) (hW : WrN n S ks kvs) (hn : n ≤ 90)
    (hw : ∀ R : Post, (∀ xs S1, Ext S S1 → S1 c = some (.dK kvs) → xs.length ≤ 20 * (n + 1) → (∀ x ∈ xs, okW k S1 x) → R (.lst xs) S1) → w [x0, some (.ref c), x2] S R)
    (q : ∀ S' kvs', S' c = some (.dK kvs') → WrN (n + 1) S' (k :: ks) kvs' → (∀ x v, x ≠ c → S x = some v → S' x = some v) → E.nx [x0, some (.ref c), x2] S') : sDPutT (wVar 1) (wC (.str k)) w E [x0, some (.ref c), x2] S := by
  rw [u_sDPutT]
  refine hw _ fun xs S1 he hS1 hl hx => ?_
  simp only [↓u_v1, ↓u_wC]
  have hW1 : WrN n S1 ks kvs := ⟨hW.1, hW.2.1, fun k' hk' => by
    obtain ⟨ys, h1, h2, h3⟩ := hW.2.2 k' hk'
    exact ⟨ys, h1, h2, fun x h => ⟨gt_ext he (h3 x h).1, (h3 x h).2⟩⟩⟩
  exact put_fin hS1 hW1 hn hl hx fun S' kvs' g1 g2 g3 => q S' kvs' g1 g2 fun x v hxc hv => by rw [g3 x hxc]; exact he x v hv
/-- odd + [..] of closed things -/
theorem wr_disp {S : Sto} {n : Nat} {k : Str} {c : Addr} {kvs : List (Key × T)} {odd disp : List T} {R : Post} (hS : S c = some (.dK kvs)) (ho : gaL odd = true) (hol : odd.length = 8) (hd : gaL disp = true) (hdl : disp.length ≤ 13) (hn : 2 ≤ n)
    (h : ∀ xs S1, Ext S S1 → S1 c = some (.dK kvs) → xs.length ≤ 20 * (n + 1) → (∀ x ∈ xs, okW k S1 x) → R (.lst xs) S1) : oAdd (.lst odd) (.lst disp) S R := by
  have hsl := sizeLine_eq
  rw [add_ll (by omega)]
  exact h _ S Ext.refl hS (by rw [List.length_append]; omega) fun x hx => okW_ga (gal_of (by rw [gal_app, ho, hd]; rfl) x hx)
/-- what stands there + [..] of closed things -/
theorem wr_more {S : Sto} {n : Nat} {k : Str} (k' : Str) {c : Addr} {kvs : List (Key × T)} {ks : List Str} {disp : List T} {R : Post} (hS : S c = some (.dK kvs)) (hW : WrN n S ks kvs) (hn : n ≤ 90) (hk' : k' ∈ ks) (hkk : ∀ x, okW k' S x → okW k S x) (hd : gaL disp = true) (hdl : disp.length ≤ 13)
    (h : ∀ xs S1, Ext S S1 → S1 c = some (.dK kvs) → xs.length ≤ 20 * (n + 1) → (∀ x ∈ xs, okW k S1 x) → R (.lst xs) S1) : ∃ a t, T.ref c = T.ref a ∧ dgT S a (.str k') = some (some t) ∧ oAdd t (.lst disp) S R := by
  have hsl := sizeLine_eq
  obtain ⟨ys, h1, h2, h3⟩ := hW.2.2 k' hk'
  have hdg : dgT S c (.str k') = some (some (.lst ys)) := by unfold dgT; rw [hS]; simp [keyT, h1]
  refine ⟨c, _, rfl, hdg, ?_⟩
  rw [add_ll (by omega)]
  refine h _ S Ext.refl hS (by rw [List.length_append]; omega) fun x hx => ?_
  rcases List.mem_append.mp hx with hx | hx
  · exact hkk x (h3 x hx)
  · exact okW_ga (gal_of hd x hx)
theorem u_newK {ρ : Sl} {S : Sto} {R : Post} : (wNewK ρ S R) = (∀ a, S a = none → R (.ref a) (supd S a (.dK []))) := rfl
theorem isnot_non {x : T} {S : Sto} {R : Post} : (oIsNot x .non S R) = (R (.bl (!isNon x)) S) := by cases x <;> rfl
theorem WrN.mono {n : Nat} {S : Sto} {ks ks' : List Str} {kvs : List (Key × T)} (h : WrN n S ks kvs) (hs : ∀ k ∈ ks', k ∈ ks) : WrN n S ks' kvs := ⟨h.1, h.2.1, fun k hk => h.2.2 k (hs k hk)⟩
theorem ok_law_wrongs : ∀ ts S R, sp_law_wrongs ts S R → w_law_wrongs { nx := fun _ S' => R .non S', rt := R } (startT n_law_wrongs ts) S := by
  rintro ts S R ⟨rfl, q⟩
  rw [show startT n_law_wrongs [] = [none, none, none] from rfl]
  unfold w_law_wrongs
  have hsl := sizeLine_eq
  rw [u_sSeq]
  simp only [↓u_s0, ↓u_wLst, ↓u_wCons, ↓u_wNil, ↓u_wC, ↓u_wUn, ↓neg_i, ↓u_wTup, ↓u_wOp, ↓po2]
  refine ⟨by simp; omega, Nat.zero_le _, by simp; omega, ?_⟩
  generalize hodd : [T.int (-1), T.bl true, T.non, T.str (Str.ofString "0"), T.tup [T.int 0], T.int (10 ^ 30), T.lst [], T.bl false] = odd
  have ho : gaL odd = true := by rw [← hodd]; decide +kernel
  have hol : odd.length = 8 := by rw [← hodd]; rfl
  clear hodd
  show sSeq _ _ _ _ _
  rw [u_sSeq]
  simp only [↓u_s1, ↓u_disp, ↓u_p0, ↓u_p1, ↓u_wLst, ↓u_wCons, ↓u_wNil, ↓u_wC, ↓u_wUn, ↓neg_i, ↓u_wTup, ↓u_wOp, ↓u_v0]
  refine ⟨by rw [hsl]; decide, by rw [hsl]; decide, ?_⟩
  rw [add_ll (by rw [hol, hsl]; decide)]
  refine wLc_filter (t := .lst odd) (ts := odd) (fun x => !isNon x) id (fun R' q' => by simp only [↓u_v0]; exact q') rfl (by omega) (fun x hx => ⟨_, rfl, fun R' q' => ?_, fun R' q' => ?_⟩) ?_
  · show wTst _ [some (.lst odd), none, some x] S R'
    simp only [↓u_wTst, ↓u_wOp, ↓u_v2, ↓u_wC, ↓isnot_non, ↓u_exbl]
    exact q'
  · show wVar 2 [some (.lst odd), none, some x] S R'
    simp only [↓u_v2]
    exact q'
  have hf : ∀ x ∈ ((odd.filter fun x => !isNon x).map id), GA x := fun x hx => by
    rw [List.map_id] at hx
    exact gal_of ho x (List.mem_filter.mp hx).1
  have hfl : ((odd.filter fun x => !isNon x).map id).length ≤ 8 := by
    rw [List.map_id, ← hol]; exact List.length_filter_le _ _
  generalize ((odd.filter fun x => !isNon x).map id) = od2 at *
  refine ⟨by rw [hsl]; decide, by rw [hsl]; decide, ?_⟩
  show oAdd _ _ _ _
  rw [add_ll (by simp; omega)]
  refine ⟨_, rfl, by simp, fun c hc => ?_⟩
  show sSeq _ _ _ _ _
  have e0 : mergeT [] [((.inr (Str.ofString "v") : Key), T.lst (odd ++ [T.int 4000, T.tup [T.str (Str.ofString "var"), T.int 0]])), (.inr (Str.ofString "w"), T.lst (od2 ++ [T.int 4000, T.tup [T.str (Str.ofString "var"), T.int 1]]))] = [((.inr (Str.ofString "v") : Key), T.lst (odd ++ [T.int 4000, T.tup [T.str (Str.ofString "var"), T.int 0]])), (.inr (Str.ofString "w"), T.lst (od2 ++ [T.int 4000, T.tup [T.str (Str.ofString "var"), T.int 1]]))] := by
    rw [merge_app]
    · rfl
    · simp [ofS_eq]
  rw [e0]
  have hW0 : ∀ S', WrN 2 S' ["v", "w"] [((.inr (Str.ofString "v") : Key), T.lst (odd ++ [T.int 4000, T.tup [T.str (Str.ofString "var"), T.int 0]])), (.inr (Str.ofString "w"), T.lst (od2 ++ [T.int 4000, T.tup [T.str (Str.ofString "var"), T.int 1]]))] := fun S' => by
    refine ⟨by simp, by simp, fun k hk => ?_⟩
    rcases List.mem_cons.mp hk with rfl | hk
    · refine ⟨odd ++ [T.int 4000, T.tup [T.str (Str.ofString "var"), T.int 0]], by simp [valT], by simp [hol], fun x hx => okW_ga (gal_of (by rw [gal_app, ho]; decide +kernel) x hx)⟩
    · rw [List.mem_singleton.mp hk]
      refine ⟨od2 ++ [T.int 4000, T.tup [T.str (Str.ofString "var"), T.int 1]], by simp [valT, ofS_eq], by simp; omega, fun x hx => okW_ga ?_⟩
      rcases List.mem_append.mp hx with hx | hx
      · exact hf x hx
      · exact gal_of (by decide +kernel) x hx
  have hS0 : supd S c (.dK [((.inr (Str.ofString "v") : Key), T.lst (odd ++ [T.int 4000, T.tup [T.str (Str.ofString "var"), T.int 0]])), (.inr (Str.ofString "w"), T.lst (od2 ++ [T.int 4000, T.tup [T.str (Str.ofString "var"), T.int 1]]))]) c = _ := supd_same
  have hE0 : ∀ x v, S x = some v → supd S c (.dK [((.inr (Str.ofString "v") : Key), T.lst (odd ++ [T.int 4000, T.tup [T.str (Str.ofString "var"), T.int 0]])), (.inr (Str.ofString "w"), T.lst (od2 ++ [T.int 4000, T.tup [T.str (Str.ofString "var"), T.int 1]]))]) x = some v := ext_new hc
  have hW0' := hW0 (supd S c (.dK [((.inr (Str.ofString "v") : Key), T.lst (odd ++ [T.int 4000, T.tup [T.str (Str.ofString "var"), T.int 0]])), (.inr (Str.ofString "w"), T.lst (od2 ++ [T.int 4000, T.tup [T.str (Str.ofString "var"), T.int 1]]))]))
  generalize supd S c (.dK [((.inr (Str.ofString "v") : Key), T.lst (odd ++ [T.int 4000, T.tup [T.str (Str.ofString "var"), T.int 0]])), (.inr (Str.ofString "w"), T.lst (od2 ++ [T.int 4000, T.tup [T.str (Str.ofString "var"), T.int 1]]))]) = S0 at *
  generalize [((.inr (Str.ofString "v") : Key), T.lst (odd ++ [T.int 4000, T.tup [T.str (Str.ofString "var"), T.int 0]])), (.inr (Str.ofString "w"), T.lst (od2 ++ [T.int 4000, T.tup [T.str (Str.ofString "var"), T.int 1]]))] = kv0 at *
  clear hW0 e0 hf hfl
  have np : ∀ {S1 S2 : Sto}, (∀ x v, S x = some v → S1 x = some v) → (∀ x v, x ≠ c → S1 x = some v → S2 x = some v) → ∀ x v, S x = some v → S2 x = some v := fun h g x v hx => g x v (fun e => by rw [e, hc] at hx; cases hx) (h x v hx)
  rw [u_sSeq]
  refine wr_put hS0 hW0' (by decide) (fun R' h => ?_) fun S1 kv1 hS1 hW1' g1 => ?_
  · simp only [↓u_sRet, ↓u_sRetN, ↓u_sNext, ↓u_sBrk, ↓u_sCont, ↓u_sSeq, ↓u_sDrop, ↓u_sIf, ↓u_wNil, ↓u_wCons, ↓u_wTup, ↓u_wLst, ↓u_wTst, ↓u_wTru, ↓u_wAnd, ↓u_wOr, ↓u_wNot, ↓u_wAndV, ↓u_wOrV, ↓u_wNotV, ↓u_wIfE, ↓u_wC, ↓u_wOp, ↓u_wUn, ↓u_wCall, ↓u_wChain, ↓u_wIsi, ↓u_wPart, ↓u_wNoPart, ↓u_wSl, ↓u_slT, ↓u_slL, ↓u_wMeth, ↓u_wKGet, ↓u_wInK, ↓u_sAsg, ↓u_exbl, ↓u_exint, ↓u_exstr, ↓u_exref, ↓u_exsome, ↓u_trubl, ↓u_truint, ↓u_trunon, ↓u_trulst, ↓u_trutup, ↓oEq_ss, ↓oEq_ii, ↓oEq_bb, ↓oEq_ni, ↓oNe_ss, ↓oNe_ii, ↓oNe_bb, ↓oEq_l0, ↓oNe_l0, ↓oEq_t0, ↓oNe_t0, ↓oLt_ii, ↓oLe_ii, ↓oGt_ii, ↓oGe_ii, ↓oSub_ii, ↓oAdd_ii, ↓u_lenT, ↓u_lenL, ↓u_isnon, ↓u_ixtup0, ↓u_ixlst0, ↓u_ixtup1, ↓u_ixlst1, ↓u_ixtup2, ↓u_ixlst2, ↓u_ixtup3, ↓u_ixlst3, ↓u_ixtup4, ↓u_ixlst4, ↓u_ixtup5, ↓u_ixlst5, ↓u_v0, ↓u_s0, ↓u_v1, ↓u_s1, ↓u_v2, ↓u_s2, ↓u_v3, ↓u_s3, ↓u_v4, ↓u_s4, ↓u_v5, ↓u_s5, ↓u_v6, ↓u_s6, ↓u_v7, ↓u_s7, ↓u_v8, ↓u_s8, ↓u_v9, ↓u_s9, ↓u_v10, ↓u_s10, ↓u_v11, ↓u_s11, ↓u_v12, ↓u_s12, ↓u_v13, ↓u_s13, ↓u_v14, ↓u_s14, ↓u_v15, ↓u_s15, ↓u_v16, ↓u_s16, ↓u_v17, ↓u_s17, ↓u_v18, ↓u_s18, ↓u_v19, ↓u_s19, if_true, if_false, Bool.false_eq_true, Bool.not_true, Bool.not_false, Bool.true_and, Bool.false_and, Bool.and_true, Bool.and_false, Bool.or_true, Bool.or_false, Bool.true_or, Bool.false_or, true_and, and_true, Option.isSome_some, List.length_cons, List.length_nil, ofS_beq, String.reduceBEq, ↓neg_i, ↓po2, hsl, Nat.reduceAdd, Nat.reduceLeDiff]
    refine wr_disp hS0 ho hol ?_ ?_ (by decide) h
    · decide +kernel
    · decide
  have hE1 := np hE0 g1
  clear hE0 g1 hS0 hW0'
  dsimp only
  rw [u_sSeq]
  refine wr_put hS1 hW1' (by decide) (fun R' h => ?_) fun S2 kv2 hS2 hW2' g2 => ?_
  · rw [u_wOp, u_wDGet]
    simp only [↓u_sRet, ↓u_sRetN, ↓u_sNext, ↓u_sBrk, ↓u_sCont, ↓u_sSeq, ↓u_sDrop, ↓u_sIf, ↓u_wNil, ↓u_wCons, ↓u_wTup, ↓u_wLst, ↓u_wTst, ↓u_wTru, ↓u_wAnd, ↓u_wOr, ↓u_wNot, ↓u_wAndV, ↓u_wOrV, ↓u_wNotV, ↓u_wIfE, ↓u_wC, ↓u_wOp, ↓u_wUn, ↓u_wCall, ↓u_wChain, ↓u_wIsi, ↓u_wPart, ↓u_wNoPart, ↓u_wSl, ↓u_slT, ↓u_slL, ↓u_wMeth, ↓u_wKGet, ↓u_wInK, ↓u_sAsg, ↓u_exbl, ↓u_exint, ↓u_exstr, ↓u_exref, ↓u_exsome, ↓u_trubl, ↓u_truint, ↓u_trunon, ↓u_trulst, ↓u_trutup, ↓oEq_ss, ↓oEq_ii, ↓oEq_bb, ↓oEq_ni, ↓oNe_ss, ↓oNe_ii, ↓oNe_bb, ↓oEq_l0, ↓oNe_l0, ↓oEq_t0, ↓oNe_t0, ↓oLt_ii, ↓oLe_ii, ↓oGt_ii, ↓oGe_ii, ↓oSub_ii, ↓oAdd_ii, ↓u_lenT, ↓u_lenL, ↓u_isnon, ↓u_ixtup0, ↓u_ixlst0, ↓u_ixtup1, ↓u_ixlst1, ↓u_ixtup2, ↓u_ixlst2, ↓u_ixtup3, ↓u_ixlst3, ↓u_ixtup4, ↓u_ixlst4, ↓u_ixtup5, ↓u_ixlst5, ↓u_v0, ↓u_s0, ↓u_v1, ↓u_s1, ↓u_v2, ↓u_s2, ↓u_v3, ↓u_s3, ↓u_v4, ↓u_s4, ↓u_v5, ↓u_s5, ↓u_v6, ↓u_s6, ↓u_v7, ↓u_s7, ↓u_v8, ↓u_s8, ↓u_v9, ↓u_s9, ↓u_v10, ↓u_s10, ↓u_v11, ↓u_s11, ↓u_v12, ↓u_s12, ↓u_v13, ↓u_s13, ↓u_v14, ↓u_s14, ↓u_v15, ↓u_s15, ↓u_v16, ↓u_s16, ↓u_v17, ↓u_s17, ↓u_v18, ↓u_s18, ↓u_v19, ↓u_s19, if_true, if_false, Bool.false_eq_true, Bool.not_true, Bool.not_false, Bool.true_and, Bool.false_and, Bool.and_true, Bool.and_false, Bool.or_true, Bool.or_false, Bool.true_or, Bool.false_or, true_and, and_true, Option.isSome_some, List.length_cons, List.length_nil, ofS_beq, String.reduceBEq, ↓neg_i, ↓po2, hsl, Nat.reduceAdd, Nat.reduceLeDiff]
    refine wr_more "a" hS1 hW1' (by decide) (by simp) (fun x h => h) ?_ ?_ h
    · decide +kernel
    · decide
  have hE2 := np hE1 g2
  clear hE1 g2 hS1 hW1'
  dsimp only
  rw [u_sSeq]
  refine wr_put hS2 hW2' (by decide) (fun R' h => ?_) fun S3 kv3 hS3 hW3' g3 => ?_
  · obtain ⟨ys, y1, y2, y3⟩ := hW2'.2.2 (Str.ofString "a") (by simp)
    have hdg : dgT S2 c (.str (Str.ofString "a")) = some (some (.lst ys)) := by unfold dgT; rw [hS2]; simp [keyT, y1]
    rw [u_wOp]
    refine wLc_filter (t := .lst ys) (ts := ys) (fun x => !isNon x) id (fun R' q' => ?_) rfl (by omega) (fun x hx => ⟨_, rfl, fun R' q' => ?_, fun R' q' => ?_⟩) ?_
    · rw [u_wDGet]
      simp only [↓u_v1, ↓u_wC]
      exact ⟨c, _, rfl, hdg, q'⟩
    · show wTst _ [some (.lst odd), some (.ref c), some x] S2 R'
      simp only [↓u_wTst, ↓u_wOp, ↓u_v2, ↓u_wC, ↓isnot_non, ↓u_exbl]
      exact q'
    · show wVar 2 [some (.lst odd), some (.ref c), some x] S2 R'
      simp only [↓u_v2]
      exact q'
    · simp only [↓u_sRet, ↓u_sRetN, ↓u_sNext, ↓u_sBrk, ↓u_sCont, ↓u_sSeq, ↓u_sDrop, ↓u_sIf, ↓u_wNil, ↓u_wCons, ↓u_wTup, ↓u_wLst, ↓u_wTst, ↓u_wTru, ↓u_wAnd, ↓u_wOr, ↓u_wNot, ↓u_wAndV, ↓u_wOrV, ↓u_wNotV, ↓u_wIfE, ↓u_wC, ↓u_wOp, ↓u_wUn, ↓u_wCall, ↓u_wChain, ↓u_wIsi, ↓u_wPart, ↓u_wNoPart, ↓u_wSl, ↓u_slT, ↓u_slL, ↓u_wMeth, ↓u_wKGet, ↓u_wInK, ↓u_sAsg, ↓u_exbl, ↓u_exint, ↓u_exstr, ↓u_exref, ↓u_exsome, ↓u_trubl, ↓u_truint, ↓u_trunon, ↓u_trulst, ↓u_trutup, ↓oEq_ss, ↓oEq_ii, ↓oEq_bb, ↓oEq_ni, ↓oNe_ss, ↓oNe_ii, ↓oNe_bb, ↓oEq_l0, ↓oNe_l0, ↓oEq_t0, ↓oNe_t0, ↓oLt_ii, ↓oLe_ii, ↓oGt_ii, ↓oGe_ii, ↓oSub_ii, ↓oAdd_ii, ↓u_lenT, ↓u_lenL, ↓u_isnon, ↓u_ixtup0, ↓u_ixlst0, ↓u_ixtup1, ↓u_ixlst1, ↓u_ixtup2, ↓u_ixlst2, ↓u_ixtup3, ↓u_ixlst3, ↓u_ixtup4, ↓u_ixlst4, ↓u_ixtup5, ↓u_ixlst5, ↓u_v0, ↓u_s0, ↓u_v1, ↓u_s1, ↓u_v2, ↓u_s2, ↓u_v3, ↓u_s3, ↓u_v4, ↓u_s4, ↓u_v5, ↓u_s5, ↓u_v6, ↓u_s6, ↓u_v7, ↓u_s7, ↓u_v8, ↓u_s8, ↓u_v9, ↓u_s9, ↓u_v10, ↓u_s10, ↓u_v11, ↓u_s11, ↓u_v12, ↓u_s12, ↓u_v13, ↓u_s13, ↓u_v14, ↓u_s14, ↓u_v15, ↓u_s15, ↓u_v16, ↓u_s16, ↓u_v17, ↓u_s17, ↓u_v18, ↓u_s18, ↓u_v19, ↓u_s19, if_true, if_false, Bool.false_eq_true, Bool.not_true, Bool.not_false, Bool.true_and, Bool.false_and, Bool.and_true, Bool.and_false, Bool.or_true, Bool.or_false, Bool.true_or, Bool.false_or, true_and, and_true, Option.isSome_some, List.length_cons, List.length_nil, ofS_beq, String.reduceBEq, hsl, Nat.reduceAdd, Nat.reduceLeDiff]
      have hfl : ((ys.filter fun x => !isNon x).map id).length ≤ ys.length := by rw [List.map_id]; exact List.length_filter_le _ _
      have hfm : ∀ x ∈ ((ys.filter fun x => !isNon x).map id), x ∈ ys := fun x hx => by
        rw [List.map_id] at hx
        exact (List.mem_filter.mp hx).1
      generalize ((ys.filter fun x => !isNon x).map id) = zs at *
      rw [add_ll (by rw [List.length_singleton]; omega)]
      refine h _ S2 Ext.refl hS2 (by rw [List.length_append, List.length_singleton]; omega) fun x hx => ?_
      rcases List.mem_append.mp hx with hx | hx
      · have := y3 x (hfm x hx)
        exact ⟨this.1, fun z => this.2 (by simp [ofS_eq])⟩
      · exact okW_ga (gal_of (by decide +kernel) x hx)
  have hE3 := np hE2 g3
  clear hE2 g3 hS2 hW2'
  dsimp only
  rw [u_sSeq]
  refine wr_put hS3 hW3' (by decide) (fun R' h => ?_) fun S4 kv4 hS4 hW4' g4 => ?_
  · simp only [↓u_sRet, ↓u_sRetN, ↓u_sNext, ↓u_sBrk, ↓u_sCont, ↓u_sSeq, ↓u_sDrop, ↓u_sIf, ↓u_wNil, ↓u_wCons, ↓u_wTup, ↓u_wLst, ↓u_wTst, ↓u_wTru, ↓u_wAnd, ↓u_wOr, ↓u_wNot, ↓u_wAndV, ↓u_wOrV, ↓u_wNotV, ↓u_wIfE, ↓u_wC, ↓u_wOp, ↓u_wUn, ↓u_wCall, ↓u_wChain, ↓u_wIsi, ↓u_wPart, ↓u_wNoPart, ↓u_wSl, ↓u_slT, ↓u_slL, ↓u_wMeth, ↓u_wKGet, ↓u_wInK, ↓u_sAsg, ↓u_exbl, ↓u_exint, ↓u_exstr, ↓u_exref, ↓u_exsome, ↓u_trubl, ↓u_truint, ↓u_trunon, ↓u_trulst, ↓u_trutup, ↓oEq_ss, ↓oEq_ii, ↓oEq_bb, ↓oEq_ni, ↓oNe_ss, ↓oNe_ii, ↓oNe_bb, ↓oEq_l0, ↓oNe_l0, ↓oEq_t0, ↓oNe_t0, ↓oLt_ii, ↓oLe_ii, ↓oGt_ii, ↓oGe_ii, ↓oSub_ii, ↓oAdd_ii, ↓u_lenT, ↓u_lenL, ↓u_isnon, ↓u_ixtup0, ↓u_ixlst0, ↓u_ixtup1, ↓u_ixlst1, ↓u_ixtup2, ↓u_ixlst2, ↓u_ixtup3, ↓u_ixlst3, ↓u_ixtup4, ↓u_ixlst4, ↓u_ixtup5, ↓u_ixlst5, ↓u_v0, ↓u_s0, ↓u_v1, ↓u_s1, ↓u_v2, ↓u_s2, ↓u_v3, ↓u_s3, ↓u_v4, ↓u_s4, ↓u_v5, ↓u_s5, ↓u_v6, ↓u_s6, ↓u_v7, ↓u_s7, ↓u_v8, ↓u_s8, ↓u_v9, ↓u_s9, ↓u_v10, ↓u_s10, ↓u_v11, ↓u_s11, ↓u_v12, ↓u_s12, ↓u_v13, ↓u_s13, ↓u_v14, ↓u_s14, ↓u_v15, ↓u_s15, ↓u_v16, ↓u_s16, ↓u_v17, ↓u_s17, ↓u_v18, ↓u_s18, ↓u_v19, ↓u_s19, if_true, if_false, Bool.false_eq_true, Bool.not_true, Bool.not_false, Bool.true_and, Bool.false_and, Bool.and_true, Bool.and_false, Bool.or_true, Bool.or_false, Bool.true_or, Bool.false_or, true_and, and_true, Option.isSome_some, List.length_cons, List.length_nil, ofS_beq, String.reduceBEq, ↓neg_i, ↓po2, hsl, Nat.reduceAdd, Nat.reduceLeDiff]
    refine wr_disp hS3 ho hol ?_ ?_ (by decide) h
    · decide +kernel
    · decide
  have hE4 := np hE3 g4
  clear hE3 g4 hS3 hW3'
  dsimp only
  rw [u_sSeq]
  refine wr_put hS4 hW4' (by decide) (fun R' h => ?_) fun S5 kv5 hS5 hW5' g5 => ?_
  · rw [u_wOp, u_wDGet]
    simp only [↓u_sRet, ↓u_sRetN, ↓u_sNext, ↓u_sBrk, ↓u_sCont, ↓u_sSeq, ↓u_sDrop, ↓u_sIf, ↓u_wNil, ↓u_wCons, ↓u_wTup, ↓u_wLst, ↓u_wTst, ↓u_wTru, ↓u_wAnd, ↓u_wOr, ↓u_wNot, ↓u_wAndV, ↓u_wOrV, ↓u_wNotV, ↓u_wIfE, ↓u_wC, ↓u_wOp, ↓u_wUn, ↓u_wCall, ↓u_wChain, ↓u_wIsi, ↓u_wPart, ↓u_wNoPart, ↓u_wSl, ↓u_slT, ↓u_slL, ↓u_wMeth, ↓u_wKGet, ↓u_wInK, ↓u_sAsg, ↓u_exbl, ↓u_exint, ↓u_exstr, ↓u_exref, ↓u_exsome, ↓u_trubl, ↓u_truint, ↓u_trunon, ↓u_trulst, ↓u_trutup, ↓oEq_ss, ↓oEq_ii, ↓oEq_bb, ↓oEq_ni, ↓oNe_ss, ↓oNe_ii, ↓oNe_bb, ↓oEq_l0, ↓oNe_l0, ↓oEq_t0, ↓oNe_t0, ↓oLt_ii, ↓oLe_ii, ↓oGt_ii, ↓oGe_ii, ↓oSub_ii, ↓oAdd_ii, ↓u_lenT, ↓u_lenL, ↓u_isnon, ↓u_ixtup0, ↓u_ixlst0, ↓u_ixtup1, ↓u_ixlst1, ↓u_ixtup2, ↓u_ixlst2, ↓u_ixtup3, ↓u_ixlst3, ↓u_ixtup4, ↓u_ixlst4, ↓u_ixtup5, ↓u_ixlst5, ↓u_v0, ↓u_s0, ↓u_v1, ↓u_s1, ↓u_v2, ↓u_s2, ↓u_v3, ↓u_s3, ↓u_v4, ↓u_s4, ↓u_v5, ↓u_s5, ↓u_v6, ↓u_s6, ↓u_v7, ↓u_s7, ↓u_v8, ↓u_s8, ↓u_v9, ↓u_s9, ↓u_v10, ↓u_s10, ↓u_v11, ↓u_s11, ↓u_v12, ↓u_s12, ↓u_v13, ↓u_s13, ↓u_v14, ↓u_s14, ↓u_v15, ↓u_s15, ↓u_v16, ↓u_s16, ↓u_v17, ↓u_s17, ↓u_v18, ↓u_s18, ↓u_v19, ↓u_s19, if_true, if_false, Bool.false_eq_true, Bool.not_true, Bool.not_false, Bool.true_and, Bool.false_and, Bool.and_true, Bool.and_false, Bool.or_true, Bool.or_false, Bool.true_or, Bool.false_or, true_and, and_true, Option.isSome_some, List.length_cons, List.length_nil, ofS_beq, String.reduceBEq, ↓neg_i, ↓po2, hsl, Nat.reduceAdd, Nat.reduceLeDiff]
    refine wr_more "n" hS4 hW4' (by decide) (by simp) (fun x h => ⟨h.1, fun z => h.2 (by simp [ofS_eq])⟩) ?_ ?_ h
    · decide +kernel
    · decide
  have hE5 := np hE4 g5
  clear hE4 g5 hS4 hW4'
  dsimp only
  rw [u_sSeq]
  refine wr_put hS5 hW5' (by decide) (fun R' h => ?_) fun S6 kv6 hS6 hW6' g6 => ?_
  · simp only [↓u_sRet, ↓u_sRetN, ↓u_sNext, ↓u_sBrk, ↓u_sCont, ↓u_sSeq, ↓u_sDrop, ↓u_sIf, ↓u_wNil, ↓u_wCons, ↓u_wTup, ↓u_wLst, ↓u_wTst, ↓u_wTru, ↓u_wAnd, ↓u_wOr, ↓u_wNot, ↓u_wAndV, ↓u_wOrV, ↓u_wNotV, ↓u_wIfE, ↓u_wC, ↓u_wOp, ↓u_wUn, ↓u_wCall, ↓u_wChain, ↓u_wIsi, ↓u_wPart, ↓u_wNoPart, ↓u_wSl, ↓u_slT, ↓u_slL, ↓u_wMeth, ↓u_wKGet, ↓u_wInK, ↓u_sAsg, ↓u_exbl, ↓u_exint, ↓u_exstr, ↓u_exref, ↓u_exsome, ↓u_trubl, ↓u_truint, ↓u_trunon, ↓u_trulst, ↓u_trutup, ↓oEq_ss, ↓oEq_ii, ↓oEq_bb, ↓oEq_ni, ↓oNe_ss, ↓oNe_ii, ↓oNe_bb, ↓oEq_l0, ↓oNe_l0, ↓oEq_t0, ↓oNe_t0, ↓oLt_ii, ↓oLe_ii, ↓oGt_ii, ↓oGe_ii, ↓oSub_ii, ↓oAdd_ii, ↓u_lenT, ↓u_lenL, ↓u_isnon, ↓u_ixtup0, ↓u_ixlst0, ↓u_ixtup1, ↓u_ixlst1, ↓u_ixtup2, ↓u_ixlst2, ↓u_ixtup3, ↓u_ixlst3, ↓u_ixtup4, ↓u_ixlst4, ↓u_ixtup5, ↓u_ixlst5, ↓u_v0, ↓u_s0, ↓u_v1, ↓u_s1, ↓u_v2, ↓u_s2, ↓u_v3, ↓u_s3, ↓u_v4, ↓u_s4, ↓u_v5, ↓u_s5, ↓u_v6, ↓u_s6, ↓u_v7, ↓u_s7, ↓u_v8, ↓u_s8, ↓u_v9, ↓u_s9, ↓u_v10, ↓u_s10, ↓u_v11, ↓u_s11, ↓u_v12, ↓u_s12, ↓u_v13, ↓u_s13, ↓u_v14, ↓u_s14, ↓u_v15, ↓u_s15, ↓u_v16, ↓u_s16, ↓u_v17, ↓u_s17, ↓u_v18, ↓u_s18, ↓u_v19, ↓u_s19, if_true, if_false, Bool.false_eq_true, Bool.not_true, Bool.not_false, Bool.true_and, Bool.false_and, Bool.and_true, Bool.and_false, Bool.or_true, Bool.or_false, Bool.true_or, Bool.false_or, true_and, and_true, Option.isSome_some, List.length_cons, List.length_nil, ofS_beq, String.reduceBEq, ↓neg_i, ↓po2, hsl, Nat.reduceAdd, Nat.reduceLeDiff]
    refine wr_disp hS5 ho hol ?_ ?_ (by decide) h
    · decide +kernel
    · decide
  have hE6 := np hE5 g6
  clear hE5 g6 hS5 hW5'
  dsimp only
  rw [u_sSeq]
  refine wr_put hS6 hW6' (by decide) (fun R' h => ?_) fun S7 kv7 hS7 hW7' g7 => ?_
  · simp only [↓u_sRet, ↓u_sRetN, ↓u_sNext, ↓u_sBrk, ↓u_sCont, ↓u_sSeq, ↓u_sDrop, ↓u_sIf, ↓u_wNil, ↓u_wCons, ↓u_wTup, ↓u_wLst, ↓u_wTst, ↓u_wTru, ↓u_wAnd, ↓u_wOr, ↓u_wNot, ↓u_wAndV, ↓u_wOrV, ↓u_wNotV, ↓u_wIfE, ↓u_wC, ↓u_wOp, ↓u_wUn, ↓u_wCall, ↓u_wChain, ↓u_wIsi, ↓u_wPart, ↓u_wNoPart, ↓u_wSl, ↓u_slT, ↓u_slL, ↓u_wMeth, ↓u_wKGet, ↓u_wInK, ↓u_sAsg, ↓u_exbl, ↓u_exint, ↓u_exstr, ↓u_exref, ↓u_exsome, ↓u_trubl, ↓u_truint, ↓u_trunon, ↓u_trulst, ↓u_trutup, ↓oEq_ss, ↓oEq_ii, ↓oEq_bb, ↓oEq_ni, ↓oNe_ss, ↓oNe_ii, ↓oNe_bb, ↓oEq_l0, ↓oNe_l0, ↓oEq_t0, ↓oNe_t0, ↓oLt_ii, ↓oLe_ii, ↓oGt_ii, ↓oGe_ii, ↓oSub_ii, ↓oAdd_ii, ↓u_lenT, ↓u_lenL, ↓u_isnon, ↓u_ixtup0, ↓u_ixlst0, ↓u_ixtup1, ↓u_ixlst1, ↓u_ixtup2, ↓u_ixlst2, ↓u_ixtup3, ↓u_ixlst3, ↓u_ixtup4, ↓u_ixlst4, ↓u_ixtup5, ↓u_ixlst5, ↓u_v0, ↓u_s0, ↓u_v1, ↓u_s1, ↓u_v2, ↓u_s2, ↓u_v3, ↓u_s3, ↓u_v4, ↓u_s4, ↓u_v5, ↓u_s5, ↓u_v6, ↓u_s6, ↓u_v7, ↓u_s7, ↓u_v8, ↓u_s8, ↓u_v9, ↓u_s9, ↓u_v10, ↓u_s10, ↓u_v11, ↓u_s11, ↓u_v12, ↓u_s12, ↓u_v13, ↓u_s13, ↓u_v14, ↓u_s14, ↓u_v15, ↓u_s15, ↓u_v16, ↓u_s16, ↓u_v17, ↓u_s17, ↓u_v18, ↓u_s18, ↓u_v19, ↓u_s19, if_true, if_false, Bool.false_eq_true, Bool.not_true, Bool.not_false, Bool.true_and, Bool.false_and, Bool.and_true, Bool.and_false, Bool.or_true, Bool.or_false, Bool.true_or, Bool.false_or, true_and, and_true, Option.isSome_some, List.length_cons, List.length_nil, ofS_beq, String.reduceBEq, ↓neg_i, ↓po2, hsl, Nat.reduceAdd, Nat.reduceLeDiff]
    refine wr_disp hS6 ho hol ?_ ?_ (by decide) h
    · decide +kernel
    · decide
  have hE7 := np hE6 g7
  clear hE6 g7 hS6 hW6'
  dsimp only
  rw [u_sSeq]
  refine wr_put hS7 hW7' (by decide) (fun R' h => ?_) fun S8 kv8 hS8 hW8' g8 => ?_
  · rw [u_wOp, u_wDGet]
    simp only [↓u_sRet, ↓u_sRetN, ↓u_sNext, ↓u_sBrk, ↓u_sCont, ↓u_sSeq, ↓u_sDrop, ↓u_sIf, ↓u_wNil, ↓u_wCons, ↓u_wTup, ↓u_wLst, ↓u_wTst, ↓u_wTru, ↓u_wAnd, ↓u_wOr, ↓u_wNot, ↓u_wAndV, ↓u_wOrV, ↓u_wNotV, ↓u_wIfE, ↓u_wC, ↓u_wOp, ↓u_wUn, ↓u_wCall, ↓u_wChain, ↓u_wIsi, ↓u_wPart, ↓u_wNoPart, ↓u_wSl, ↓u_slT, ↓u_slL, ↓u_wMeth, ↓u_wKGet, ↓u_wInK, ↓u_sAsg, ↓u_exbl, ↓u_exint, ↓u_exstr, ↓u_exref, ↓u_exsome, ↓u_trubl, ↓u_truint, ↓u_trunon, ↓u_trulst, ↓u_trutup, ↓oEq_ss, ↓oEq_ii, ↓oEq_bb, ↓oEq_ni, ↓oNe_ss, ↓oNe_ii, ↓oNe_bb, ↓oEq_l0, ↓oNe_l0, ↓oEq_t0, ↓oNe_t0, ↓oLt_ii, ↓oLe_ii, ↓oGt_ii, ↓oGe_ii, ↓oSub_ii, ↓oAdd_ii, ↓u_lenT, ↓u_lenL, ↓u_isnon, ↓u_ixtup0, ↓u_ixlst0, ↓u_ixtup1, ↓u_ixlst1, ↓u_ixtup2, ↓u_ixlst2, ↓u_ixtup3, ↓u_ixlst3, ↓u_ixtup4, ↓u_ixlst4, ↓u_ixtup5, ↓u_ixlst5, ↓u_v0, ↓u_s0, ↓u_v1, ↓u_s1, ↓u_v2, ↓u_s2, ↓u_v3, ↓u_s3, ↓u_v4, ↓u_s4, ↓u_v5, ↓u_s5, ↓u_v6, ↓u_s6, ↓u_v7, ↓u_s7, ↓u_v8, ↓u_s8, ↓u_v9, ↓u_s9, ↓u_v10, ↓u_s10, ↓u_v11, ↓u_s11, ↓u_v12, ↓u_s12, ↓u_v13, ↓u_s13, ↓u_v14, ↓u_s14, ↓u_v15, ↓u_s15, ↓u_v16, ↓u_s16, ↓u_v17, ↓u_s17, ↓u_v18, ↓u_s18, ↓u_v19, ↓u_s19, if_true, if_false, Bool.false_eq_true, Bool.not_true, Bool.not_false, Bool.true_and, Bool.false_and, Bool.and_true, Bool.and_false, Bool.or_true, Bool.or_false, Bool.true_or, Bool.false_or, true_and, and_true, Option.isSome_some, List.length_cons, List.length_nil, ofS_beq, String.reduceBEq, ↓neg_i, ↓po2, hsl, Nat.reduceAdd, Nat.reduceLeDiff]
    refine wr_more "c" hS7 hW7' (by decide) (by simp) (fun x h => h) ?_ ?_ h
    · decide +kernel
    · decide
  have hE8 := np hE7 g8
  clear hE7 g8 hS7 hW7'
  dsimp only
  rw [u_sSeq]
  refine wr_put hS8 hW8' (by decide) (fun R' h => ?_) fun S9 kv9 hS9 hW9' g9 => ?_
  · simp only [↓u_sRet, ↓u_sRetN, ↓u_sNext, ↓u_sBrk, ↓u_sCont, ↓u_sSeq, ↓u_sDrop, ↓u_sIf, ↓u_wNil, ↓u_wCons, ↓u_wTup, ↓u_wLst, ↓u_wTst, ↓u_wTru, ↓u_wAnd, ↓u_wOr, ↓u_wNot, ↓u_wAndV, ↓u_wOrV, ↓u_wNotV, ↓u_wIfE, ↓u_wC, ↓u_wOp, ↓u_wUn, ↓u_wCall, ↓u_wChain, ↓u_wIsi, ↓u_wPart, ↓u_wNoPart, ↓u_wSl, ↓u_slT, ↓u_slL, ↓u_wMeth, ↓u_wKGet, ↓u_wInK, ↓u_sAsg, ↓u_exbl, ↓u_exint, ↓u_exstr, ↓u_exref, ↓u_exsome, ↓u_trubl, ↓u_truint, ↓u_trunon, ↓u_trulst, ↓u_trutup, ↓oEq_ss, ↓oEq_ii, ↓oEq_bb, ↓oEq_ni, ↓oNe_ss, ↓oNe_ii, ↓oNe_bb, ↓oEq_l0, ↓oNe_l0, ↓oEq_t0, ↓oNe_t0, ↓oLt_ii, ↓oLe_ii, ↓oGt_ii, ↓oGe_ii, ↓oSub_ii, ↓oAdd_ii, ↓u_lenT, ↓u_lenL, ↓u_isnon, ↓u_ixtup0, ↓u_ixlst0, ↓u_ixtup1, ↓u_ixlst1, ↓u_ixtup2, ↓u_ixlst2, ↓u_ixtup3, ↓u_ixlst3, ↓u_ixtup4, ↓u_ixlst4, ↓u_ixtup5, ↓u_ixlst5, ↓u_v0, ↓u_s0, ↓u_v1, ↓u_s1, ↓u_v2, ↓u_s2, ↓u_v3, ↓u_s3, ↓u_v4, ↓u_s4, ↓u_v5, ↓u_s5, ↓u_v6, ↓u_s6, ↓u_v7, ↓u_s7, ↓u_v8, ↓u_s8, ↓u_v9, ↓u_s9, ↓u_v10, ↓u_s10, ↓u_v11, ↓u_s11, ↓u_v12, ↓u_s12, ↓u_v13, ↓u_s13, ↓u_v14, ↓u_s14, ↓u_v15, ↓u_s15, ↓u_v16, ↓u_s16, ↓u_v17, ↓u_s17, ↓u_v18, ↓u_s18, ↓u_v19, ↓u_s19, if_true, if_false, Bool.false_eq_true, Bool.not_true, Bool.not_false, Bool.true_and, Bool.false_and, Bool.and_true, Bool.and_false, Bool.or_true, Bool.or_false, Bool.true_or, Bool.false_or, true_and, and_true, Option.isSome_some, List.length_cons, List.length_nil, ofS_beq, String.reduceBEq, ↓neg_i, ↓po2, hsl, ↓u_newK, Nat.reduceAdd, Nat.reduceLeDiff]
    intro z hz
    have hcl : gaL [T.tup [T.int (-1)], T.tup [T.non], T.tup [T.bl true], T.tup [T.tup [T.str (Str.ofString "var"), T.int 4000]], T.lst [T.int 0], T.tup [T.int 0, T.int 65536], T.tup [T.tup [T.int 0]], T.tup [T.str (Str.ofString "0")]] = true := by decide +kernel
    have hzc : c ≠ z := fun e => by rw [← e, hS8] at hz; cases hz
    rw [add_ll (by simp; omega)]
    refine h _ _ (ext_new hz) (by rw [supd_ne hzc]; exact hS8) (by simp; omega) fun x hx => ?_
    rcases List.mem_append.mp hx with hx | hx
    · exact okW_ga (gal_of ho x hx)
    · have hx : x ∈ [T.tup [T.int (-1)], T.tup [T.non], T.tup [T.bl true], T.tup [T.tup [T.str (Str.ofString "var"), T.int 4000]], T.lst [T.int 0], T.tup [T.int 0, T.int 65536], T.tup [T.tup [T.int 0]], T.tup [T.str (Str.ofString "0")]] ++ [T.ref z] := hx
      rcases List.mem_append.mp hx with hx | hx
      · exact okW_ga (gal_of hcl x hx)
      · rw [List.mem_singleton.mp hx]
        exact ⟨by simp only [GT]; exact supd_same, fun z => absurd (.inl rfl) z⟩
  have hE9 := np hE8 g9
  clear hE8 g9 hS8 hW8'
  dsimp only
  rw [u_sSeq]
  refine wr_put hS9 hW9' (by decide) (fun R' h => ?_) fun S10 kv10 hS10 hW10' g10 => ?_
  · rw [u_wOp, u_wDGet]
    simp only [↓u_sRet, ↓u_sRetN, ↓u_sNext, ↓u_sBrk, ↓u_sCont, ↓u_sSeq, ↓u_sDrop, ↓u_sIf, ↓u_wNil, ↓u_wCons, ↓u_wTup, ↓u_wLst, ↓u_wTst, ↓u_wTru, ↓u_wAnd, ↓u_wOr, ↓u_wNot, ↓u_wAndV, ↓u_wOrV, ↓u_wNotV, ↓u_wIfE, ↓u_wC, ↓u_wOp, ↓u_wUn, ↓u_wCall, ↓u_wChain, ↓u_wIsi, ↓u_wPart, ↓u_wNoPart, ↓u_wSl, ↓u_slT, ↓u_slL, ↓u_wMeth, ↓u_wKGet, ↓u_wInK, ↓u_sAsg, ↓u_exbl, ↓u_exint, ↓u_exstr, ↓u_exref, ↓u_exsome, ↓u_trubl, ↓u_truint, ↓u_trunon, ↓u_trulst, ↓u_trutup, ↓oEq_ss, ↓oEq_ii, ↓oEq_bb, ↓oEq_ni, ↓oNe_ss, ↓oNe_ii, ↓oNe_bb, ↓oEq_l0, ↓oNe_l0, ↓oEq_t0, ↓oNe_t0, ↓oLt_ii, ↓oLe_ii, ↓oGt_ii, ↓oGe_ii, ↓oSub_ii, ↓oAdd_ii, ↓u_lenT, ↓u_lenL, ↓u_isnon, ↓u_ixtup0, ↓u_ixlst0, ↓u_ixtup1, ↓u_ixlst1, ↓u_ixtup2, ↓u_ixlst2, ↓u_ixtup3, ↓u_ixlst3, ↓u_ixtup4, ↓u_ixlst4, ↓u_ixtup5, ↓u_ixlst5, ↓u_v0, ↓u_s0, ↓u_v1, ↓u_s1, ↓u_v2, ↓u_s2, ↓u_v3, ↓u_s3, ↓u_v4, ↓u_s4, ↓u_v5, ↓u_s5, ↓u_v6, ↓u_s6, ↓u_v7, ↓u_s7, ↓u_v8, ↓u_s8, ↓u_v9, ↓u_s9, ↓u_v10, ↓u_s10, ↓u_v11, ↓u_s11, ↓u_v12, ↓u_s12, ↓u_v13, ↓u_s13, ↓u_v14, ↓u_s14, ↓u_v15, ↓u_s15, ↓u_v16, ↓u_s16, ↓u_v17, ↓u_s17, ↓u_v18, ↓u_s18, ↓u_v19, ↓u_s19, if_true, if_false, Bool.false_eq_true, Bool.not_true, Bool.not_false, Bool.true_and, Bool.false_and, Bool.and_true, Bool.and_false, Bool.or_true, Bool.or_false, Bool.true_or, Bool.false_or, true_and, and_true, Option.isSome_some, List.length_cons, List.length_nil, ofS_beq, String.reduceBEq, ↓neg_i, ↓po2, hsl, Nat.reduceAdd, Nat.reduceLeDiff]
    refine wr_more "s" hS9 hW9' (by decide) (by simp) (fun x h => ⟨h.1, fun z => absurd (.inr rfl) z⟩) ?_ ?_ h
    · decide +kernel
    · decide
  have hE10 := np hE9 g10
  clear hE9 g10 hS9 hW9'
  dsimp only
  rw [u_sSeq]
  refine wr_put hS10 hW10' (by decide) (fun R' h => ?_) fun S11 kv11 hS11 hW11' g11 => ?_
  · simp only [↓u_sRet, ↓u_sRetN, ↓u_sNext, ↓u_sBrk, ↓u_sCont, ↓u_sSeq, ↓u_sDrop, ↓u_sIf, ↓u_wNil, ↓u_wCons, ↓u_wTup, ↓u_wLst, ↓u_wTst, ↓u_wTru, ↓u_wAnd, ↓u_wOr, ↓u_wNot, ↓u_wAndV, ↓u_wOrV, ↓u_wNotV, ↓u_wIfE, ↓u_wC, ↓u_wOp, ↓u_wUn, ↓u_wCall, ↓u_wChain, ↓u_wIsi, ↓u_wPart, ↓u_wNoPart, ↓u_wSl, ↓u_slT, ↓u_slL, ↓u_wMeth, ↓u_wKGet, ↓u_wInK, ↓u_sAsg, ↓u_exbl, ↓u_exint, ↓u_exstr, ↓u_exref, ↓u_exsome, ↓u_trubl, ↓u_truint, ↓u_trunon, ↓u_trulst, ↓u_trutup, ↓oEq_ss, ↓oEq_ii, ↓oEq_bb, ↓oEq_ni, ↓oNe_ss, ↓oNe_ii, ↓oNe_bb, ↓oEq_l0, ↓oNe_l0, ↓oEq_t0, ↓oNe_t0, ↓oLt_ii, ↓oLe_ii, ↓oGt_ii, ↓oGe_ii, ↓oSub_ii, ↓oAdd_ii, ↓u_lenT, ↓u_lenL, ↓u_isnon, ↓u_ixtup0, ↓u_ixlst0, ↓u_ixtup1, ↓u_ixlst1, ↓u_ixtup2, ↓u_ixlst2, ↓u_ixtup3, ↓u_ixlst3, ↓u_ixtup4, ↓u_ixlst4, ↓u_ixtup5, ↓u_ixlst5, ↓u_v0, ↓u_s0, ↓u_v1, ↓u_s1, ↓u_v2, ↓u_s2, ↓u_v3, ↓u_s3, ↓u_v4, ↓u_s4, ↓u_v5, ↓u_s5, ↓u_v6, ↓u_s6, ↓u_v7, ↓u_s7, ↓u_v8, ↓u_s8, ↓u_v9, ↓u_s9, ↓u_v10, ↓u_s10, ↓u_v11, ↓u_s11, ↓u_v12, ↓u_s12, ↓u_v13, ↓u_s13, ↓u_v14, ↓u_s14, ↓u_v15, ↓u_s15, ↓u_v16, ↓u_s16, ↓u_v17, ↓u_s17, ↓u_v18, ↓u_s18, ↓u_v19, ↓u_s19, if_true, if_false, Bool.false_eq_true, Bool.not_true, Bool.not_false, Bool.true_and, Bool.false_and, Bool.and_true, Bool.and_false, Bool.or_true, Bool.or_false, Bool.true_or, Bool.false_or, true_and, and_true, Option.isSome_some, List.length_cons, List.length_nil, ofS_beq, String.reduceBEq, ↓neg_i, ↓po2, hsl, Nat.reduceAdd, Nat.reduceLeDiff]
    refine wr_disp hS10 ho hol ?_ ?_ (by decide) h
    · decide +kernel
    · decide
  have hE11 := np hE10 g11
  clear hE10 g11 hS10 hW10'
  dsimp only
  simp only [↓u_sRet, ↓u_sRetN, ↓u_sNext, ↓u_sBrk, ↓u_sCont, ↓u_sSeq, ↓u_sDrop, ↓u_sIf, ↓u_wNil, ↓u_wCons, ↓u_wTup, ↓u_wLst, ↓u_wTst, ↓u_wTru, ↓u_wAnd, ↓u_wOr, ↓u_wNot, ↓u_wAndV, ↓u_wOrV, ↓u_wNotV, ↓u_wIfE, ↓u_wC, ↓u_wOp, ↓u_wUn, ↓u_wCall, ↓u_wChain, ↓u_wIsi, ↓u_wPart, ↓u_wNoPart, ↓u_wSl, ↓u_slT, ↓u_slL, ↓u_wMeth, ↓u_wKGet, ↓u_wInK, ↓u_sAsg, ↓u_exbl, ↓u_exint, ↓u_exstr, ↓u_exref, ↓u_exsome, ↓u_trubl, ↓u_truint, ↓u_trunon, ↓u_trulst, ↓u_trutup, ↓oEq_ss, ↓oEq_ii, ↓oEq_bb, ↓oEq_ni, ↓oNe_ss, ↓oNe_ii, ↓oNe_bb, ↓oEq_l0, ↓oNe_l0, ↓oEq_t0, ↓oNe_t0, ↓oLt_ii, ↓oLe_ii, ↓oGt_ii, ↓oGe_ii, ↓oSub_ii, ↓oAdd_ii, ↓u_lenT, ↓u_lenL, ↓u_isnon, ↓u_ixtup0, ↓u_ixlst0, ↓u_ixtup1, ↓u_ixlst1, ↓u_ixtup2, ↓u_ixlst2, ↓u_ixtup3, ↓u_ixlst3, ↓u_ixtup4, ↓u_ixlst4, ↓u_ixtup5, ↓u_ixlst5, ↓u_v0, ↓u_s0, ↓u_v1, ↓u_s1, ↓u_v2, ↓u_s2, ↓u_v3, ↓u_s3, ↓u_v4, ↓u_s4, ↓u_v5, ↓u_s5, ↓u_v6, ↓u_s6, ↓u_v7, ↓u_s7, ↓u_v8, ↓u_s8, ↓u_v9, ↓u_s9, ↓u_v10, ↓u_s10, ↓u_v11, ↓u_s11, ↓u_v12, ↓u_s12, ↓u_v13, ↓u_s13, ↓u_v14, ↓u_s14, ↓u_v15, ↓u_s15, ↓u_v16, ↓u_s16, ↓u_v17, ↓u_s17, ↓u_v18, ↓u_s18, ↓u_v19, ↓u_s19, if_true, if_false, Bool.false_eq_true, Bool.not_true, Bool.not_false, Bool.true_and, Bool.false_and, Bool.and_true, Bool.and_false, Bool.or_true, Bool.or_false, Bool.true_or, Bool.false_or, true_and, and_true, Option.isSome_some, List.length_cons, List.length_nil, ofS_beq, String.reduceBEq]
  exact q c kv11 S11 hE11 hc hS11 ⟨hW11'.2.1, by have := hW11'.1; omega, fun k hk => by
    obtain ⟨xs, h1, h2, h3⟩ := hW11'.2.2 k (by
      simp only [kinds12, List.mem_cons, List.not_mem_nil, or_false] at hk
      rcases hk with rfl | rfl | rfl | rfl | rfl | rfl | rfl | rfl | rfl | rfl | rfl <;> simp)
    exact ⟨xs, h1, by omega, h3⟩⟩
end TL.K

set_option Elab.async false
set_option linter.all false
set_option maxRecDepth 100000
set_option maxHeartbeats 8000000
namespace TL.K
open PySem L2 PyProof.Rows
/-- empty dicts stay -/
def Em (S S' : Sto) : Prop := ∀ z, S z = some (.dK []) → S' z = some (.dK [])
theorem Em.refl {S : Sto} : Em S S := fun _ h => h
theorem Em.trans {S S1 S2 : Sto} (h : Em S S1) (g : Em S1 S2) : Em S S2 := fun z q => g z (h z q)
theorem Ext.em {S S' : Sto} (h : Ext S S') : Em S S' := fun z q => h z _ q
theorem Kp.em {a b : Addr} {S S' : Sto} (d : Dk a b S) (k : Kp a b S S') : Em S S' := fun z q => by
  obtain ⟨ns, m, dd, h1, h2, h3, h4⟩ := d
  refine k z _ (fun e => ?_) (fun e => ?_) q
  · rw [e, h3] at q; cases q
  · rw [e, h4] at q; cases q
theorem em_upd {S : Sto} {p : Addr} {ts : List T} {c : Cell} (h : S p = some (.lst ts)) : Em S (supd S p c) := fun z q => by
  have : z ≠ p := fun e => by rw [e, h] at q; cases q
  rw [supd_ne this]; exact q
theorem em_new {S : Sto} {p : Addr} {c : Cell} (h : S p = none) : Em S (supd S p c) := (ext_new h).em
theorem cut_mem {α : Type} {xs : List α} {lo hi : Option Int} {x : α} (h : x ∈ cutT xs lo hi) : x ∈ xs := List.mem_of_mem_drop (List.mem_of_mem_take h)
theorem ga_sub {xs ys : List T} (h : ∀ x ∈ xs, GA x) (hl : xs.length ≤ 1000) (hs : ∀ y ∈ ys, y ∈ xs) (hl2 : ys.length ≤ 10000) : GA (.tup ys) := ga_tup hl2 fun y hy => h y (hs y hy)
theorem gt_ins {S : Sto} {row : List T} {at_ : Nat} {x : T} (hr : ∀ y ∈ row, GA y) (hl : row.length ≤ 1000) (ha : at_ + 1 ≤ row.length) (gx : GT S x) (px : at_ + 1 < 3 → plT x = true) : GT S (.tup (row.take (at_ + 1) ++ [x] ++ row.drop (at_ + 2))) ∧ plT (.tup (row.take (at_ + 1) ++ [x] ++ row.drop (at_ + 2))) = true := by
  refine ⟨?_, rfl⟩
  simp only [GT]
  refine ⟨by simp; omega, gts_of fun i t e => ?_⟩
  have hlt : (row.take (at_ + 1)).length = at_ + 1 := by rw [List.length_take]; omega
  by_cases h1 : i < at_ + 1
  · rw [List.append_assoc, List.getElem?_append_left (by omega)] at e
    have := hr t (List.mem_of_mem_take (List.mem_of_getElem? e))
    exact ⟨fun _ => this.1, this.2 S⟩
  · by_cases h2 : i = at_ + 1
    · subst h2
      rw [List.append_assoc, List.getElem?_append_right (by omega), hlt, Nat.sub_self] at e
      have : x = t := by simpa using e
      subst this
      exact ⟨fun q => px (by omega), gx⟩
    · rw [List.getElem?_append_right (by simp; omega)] at e
      have := hr t (List.mem_of_mem_drop (List.mem_of_getElem? e))
      exact ⟨fun _ => this.1, this.2 S⟩
theorem enum_mem : ∀ {ts : List T} {k : Nat} {t : T}, t ∈ enumT k ts → ∃ (i : Nat) (x : T), ts[i]? = some x ∧ t = .tup [.int ((k + i : Nat) : Int), x]
  | [], _, _, h => by simp [enumT] at h
  | y :: ts, k, t, h => by
    simp only [enumT] at h
    rcases List.mem_cons.mp h with h | h
    · exact ⟨0, y, rfl, by simpa using h⟩
    · obtain ⟨i, x, h1, h2⟩ := enum_mem h
      exact ⟨i + 1, x, by simpa using h1, by rw [h2]; congr 3; simp; omega⟩
theorem slC {S : Sto} {p : Addr} {ts : List T} {lo hi : Option Int} {R : Post} (h : S p = some (.lst ts)) : (oSl (.ref p) lo hi S R) = (R (.lst (cutT ts lo hi)) S) := by
  simp [oSl, asL, h]
theorem dput_of {S : Sto} {c : Addr} {kvs : List (Key × T)} {k : Str} {t : T} (h : S c = some (.dK kvs)) (hl : kvs.length ≤ 1000) : dPutT0 S c (.str k) t = some (.dK (putT kvs (.inr k) t)) := by
  have hsl := sizeLine_eq
  unfold dPutT0
  rw [h]
  simp only [keyT, Option.map_some]
  rw [if_pos (by omega)]
/-- the wrong parts as they stand -/
def WrK (S : Sto) (kvs : List (Key × T)) : Prop := kvs ≠ [] ∧ ∀ k ∈ ("b" : Str) :: kinds12, ∃ xs, valT kvs (.inr k) = some (.lst xs) ∧ xs.length ≤ 1000 ∧ ∀ x ∈ xs, okW k S x
theorem WrK.em {S S' : Sto} {kvs : List (Key × T)} (h : WrK S kvs) (e : Em S S') : WrK S' kvs := ⟨h.1, fun k hk => by
  obtain ⟨xs, h1, h2, h3⟩ := h.2 k hk
  exact ⟨xs, h1, h2, fun x hx => ⟨gt_mono e (h3 x hx).1, (h3 x hx).2⟩⟩⟩
def Rw (S : Sto) (xs : List T) : Prop := ∀ x ∈ xs, GT S x ∧ plT x = true
theorem Rw.em {S S' : Sto} {xs : List T} (h : Rw S xs) (e : Em S S') : Rw S' xs := fun x hx => ⟨gt_mono e (h x hx).1, (h x hx).2⟩
theorem Rw.snoc {S : Sto} {xs : List T} {x : T} (h : Rw S xs) (g : GT S x ∧ plT x = true) : Rw S (xs ++ [x]) := fun y hy => by
  rcases List.mem_append.mp hy with hy | hy
  · exact h y hy
  · rw [List.mem_singleton.mp hy]; exact g
theorem list_t {ts : List T} {S : Sto} {R : Post} (h : ts.length ≤ sizeLine) : (oList [.tup ts] S R) = (R (.lst ts) S) := propext ⟨fun ⟨x, us, e, h1, _, q⟩ => by cases e; cases h1; exact q, fun q => ⟨_, ts, rfl, rfl, h, q⟩⟩
theorem sh_of {a b : Addr} {x : T} {xs : List T} {S : Sto} {R : Post} (hd : Dk a b S) (hx : asL S x = some xs) (hl : xs.length ≤ 10000) (q : ∀ c ys S', S c = none → S' c = some (.lst ys) → ys.length = xs.length → (∀ y ∈ ys, y ∈ xs) → Dk a b S' → Kp a b S S' → R (.ref c) S') : sp_law_shuffled [.ref a, x] S R := ⟨a, b, x, xs, rfl, hd, hx, hl, q⟩
theorem cut_len4 {α : Type} (xs : List α) (n : Nat) : (cutT xs none (some ((n : Nat) : Int))).length ≤ n := by
  unfold cutT HT.sIx
  simp
  rw [if_neg (by omega)]
  omega
theorem ok_law_near_rows : ∀ ts S R, sp_law_near_rows ts S R → w_law_near_rows { nx := fun _ S' => R .non S', rt := R } (startT n_law_near_rows ts) S := by
  rintro ts S R ⟨a, b, c, n, fs, w, ks, args, rfl, hd, hc, hfs, hn0, hn1, hk, hla, hga, hks, q⟩
  rw [show startT n_law_near_rows [.ref a, .ref c, .tup (.str w :: args), .int n] = [some (.ref a), some (.ref c), some (.tup (.str w :: args)), some (.int n), none, none, none, none, none] from rfl]
  unfold w_law_near_rows
  have hsl := sizeLine_eq
  have nc := hd.nf hc
  have hks10 : ks.length ≤ 10 := (hfs.2.2.2.1 _ (look_mem hk)).1
  have hw : w.length ≤ 100 := hfs.2.2.2.2 _ (look_mem hk)
  have hlc : ks.cps.toList.length = ks.length := by simp [Str.length]
  have hrow : ∀ y ∈ (T.str w :: args), GA y := fun y hy => by
    rcases List.mem_cons.mp hy with rfl | hy
    · exact ga_str (by omega)
    · exact hga y hy
  have hrl : (T.str w :: args).length = ks.length + 1 := by rw [List.length_cons, hla]
  have e0 : ∀ S' R', oIx (.tup (.str w :: args)) (.int 0) S' R' = R' (.str w) S' := fun S' R' => u_ixtup0
  simp only [↓u_sRet, ↓u_sRetN, ↓u_sNext, ↓u_sBrk, ↓u_sCont, ↓u_sSeq, ↓u_sDrop, ↓u_sIf, ↓u_wNil, ↓u_wCons, ↓u_wTup, ↓u_wLst, ↓u_wTst, ↓u_wTru, ↓u_wAnd, ↓u_wOr, ↓u_wNot, ↓u_wAndV, ↓u_wOrV, ↓u_wNotV, ↓u_wIfE, ↓u_wC, ↓u_wOp, ↓u_wUn, ↓u_wCall, ↓u_wChain, ↓u_wIsi, ↓u_wPart, ↓u_wNoPart, ↓u_wSl, ↓u_slT, ↓u_slL, ↓u_wMeth, ↓u_wKGet, ↓u_wInK, ↓u_sAsg, ↓u_exbl, ↓u_exint, ↓u_exstr, ↓u_exref, ↓u_exsome, ↓u_trubl, ↓u_truint, ↓u_trunon, ↓u_trulst, ↓u_trutup, ↓oEq_ss, ↓oEq_ii, ↓oEq_bb, ↓oEq_ni, ↓oNe_ss, ↓oNe_ii, ↓oNe_bb, ↓oEq_l0, ↓oNe_l0, ↓oEq_t0, ↓oNe_t0, ↓oLt_ii, ↓oLe_ii, ↓oGt_ii, ↓oGe_ii, ↓oSub_ii, ↓oAdd_ii, ↓u_lenT, ↓u_lenL, ↓u_isnon, ↓u_ixtup0, ↓u_ixlst0, ↓u_ixtup1, ↓u_ixlst1, ↓u_ixtup2, ↓u_ixlst2, ↓u_ixtup3, ↓u_ixlst3, ↓u_ixtup4, ↓u_ixlst4, ↓u_ixtup5, ↓u_ixlst5, ↓u_v0, ↓u_s0, ↓u_v1, ↓u_s1, ↓u_v2, ↓u_s2, ↓u_v3, ↓u_s3, ↓u_v4, ↓u_s4, ↓u_v5, ↓u_s5, ↓u_v6, ↓u_s6, ↓u_v7, ↓u_s7, ↓u_v8, ↓u_s8, ↓u_v9, ↓u_s9, ↓u_v10, ↓u_s10, ↓u_v11, ↓u_s11, ↓u_v12, ↓u_s12, ↓u_v13, ↓u_s13, ↓u_v14, ↓u_s14, ↓u_v15, ↓u_s15, ↓u_v16, ↓u_s16, ↓u_v17, ↓u_s17, ↓u_v18, ↓u_s18, ↓u_v19, ↓u_s19, if_true, if_false, Bool.false_eq_true, Bool.not_true, Bool.not_false, Bool.true_and, Bool.false_and, Bool.and_true, Bool.and_false, Bool.or_true, Bool.or_false, Bool.true_or, Bool.false_or, true_and, and_true, Option.isSome_some, List.length_cons, List.length_nil, ofS_beq, String.reduceBEq, ↓u_cell, ↓neg_i, hsl, Nat.reduceAdd, Nat.reduceLeDiff]
  rw [add_tt (by simp; omega), list_t (by omega)]
  show oAdd _ _ _ _
  have hc1l := cutT_len (T.str w :: args) (some 1) none
  have hc2l := cutT_len (T.str w :: args) none (some (-1))
  have hc3l := cutT_len (T.str w :: args) none (some 1)
  rw [add_tt (by simp only [List.length_cons, List.length_nil] at *; omega)]
  intro p hp
  generalize hx0 : [T.tup (cutT (T.str w :: args) none (some (-1))), T.tup (T.str w :: args ++ [T.int 0]), T.lst (T.str w :: args), T.tup (cutT (T.str w :: args) (some 1) none), T.tup ([T.str (Str.ofString "nop")] ++ cutT (T.str w :: args) (some 1) none), T.tup [T.tup (T.str w :: args)], T.non, T.tup [], T.tup (cutT (T.str w :: args) none (some 1)), T.str w] = xs0
  have hxl : xs0.length = 10 := by rw [← hx0]; rfl
  have hx : ∀ x ∈ xs0, GA x := by
    rw [← hx0]
    intro x hx
    have hsub : ∀ lo hi, GA (.tup (cutT (T.str w :: args) lo hi)) := fun lo hi => ga_sub hrow (by omega) (fun y hy => cut_mem hy) (by have := cutT_len (T.str w :: args) lo hi; omega)
    simp only [List.mem_cons, List.not_mem_nil, or_false] at hx
    rcases hx with rfl | rfl | rfl | rfl | rfl | rfl | rfl | rfl | rfl | rfl
    · exact hsub _ _
    · refine ga_tup (by simp; omega) fun y hy => ?_
      rcases List.mem_append.mp hy with hy | hy
      · exact hrow y hy
      · rw [List.mem_singleton.mp hy]; exact ga_int 0
    · exact ⟨rfl, fun S => by simp only [GT]⟩
    · exact hsub _ _
    · refine ga_tup (by simp only [List.length_append, List.length_cons, List.length_nil] at *; omega) fun y hy => ?_
      rcases List.mem_append.mp hy with hy | hy
      · rw [List.mem_singleton.mp hy]; exact ga_str (by decide +kernel)
      · exact hrow y (cut_mem hy)
    · exact ga_tup (by simp) fun y hy => by rw [List.mem_singleton.mp hy]; exact ga_tup (by omega) hrow
    · exact ga_non
    · exact ga_tup (by simp) (by simp)
    · exact hsub _ _
    · exact ga_str (by omega)
  clear hx0
  have np := hd.na hp
  have hpc : c ≠ p := fun e => by rw [← e, hc] at hp; cases hp
  refine ⟨by simp [tyT, supd_same], ?_⟩
  have hp1 : supd S p (.lst xs0) p = some (.lst xs0) := supd_same
  have hc1 : supd S p (.lst xs0) c = some (.dK (fD fs)) := by rw [supd_ne hpc]; exact hc
  have d1 : Dk a b (supd S p (.lst xs0)) := hd.upd np.1 np.2
  have k1 : Kp a b S (supd S p (.lst xs0)) := Kp.refl.upd hp
  generalize supd S p (.lst xs0) = S1 at *
  refine sortD_of hc1 hfs.2.1 fun ys hperm => ?_
  refine pick_of d1 (fun e => ?_) (by rw [List.length_map, hperm.length_eq, List.length_map]; have := hfs.2.1; omega) fun t S2 ht d2 k2 => ?_
  · have h0 : ys = [] := by simpa using e
    rw [h0] at hperm
    have := hperm.length_eq
    rw [List.length_map] at this
    exact hfs.1 (List.eq_nil_of_length_eq_zero this.symm)
  obtain ⟨w2, hw2, rfl⟩ := List.mem_map.mp ht
  have hw2l : w2.length ≤ 100 := by
    obtain ⟨pr, h1, h2⟩ := List.mem_map.mp (hperm.mem_iff.mp hw2)
    rw [← h2]; exact hfs.2.2.2.2 _ h1
  have hp2 : S2 p = some (.lst xs0) := k2 _ _ np.1 np.2 hp1
  have hc2 : S2 c = some (.dK (fD fs)) := k2 _ _ nc.1 nc.2 hc1
  show oAdd _ _ _ _
  rw [add_tt (by simp only [List.length_cons, List.length_nil] at *; omega)]
  show oAppend _ _ _ _
  rw [app_eq (l := xs0) hp2 (by omega)]
  have hx1 : ∀ x ∈ xs0 ++ [T.tup ([T.str w2] ++ cutT (T.str w :: args) (some 1) none)], GA x := fun x hx' => by
    rcases List.mem_append.mp hx' with hx' | hx'
    · exact hx x hx'
    · rw [List.mem_singleton.mp hx']
      refine ga_tup (by simp only [List.length_append, List.length_cons, List.length_nil] at *; omega) fun y hy => ?_
      rcases List.mem_append.mp hy with hy | hy
      · rw [List.mem_singleton.mp hy]; exact ga_str (by omega)
      · exact hrow y (cut_mem hy)
  have hxl1 : (xs0 ++ [T.tup ([T.str w2] ++ cutT (T.str w :: args) (some 1) none)]).length = 11 := by simp [hxl]
  generalize xs0 ++ [T.tup ([T.str w2] ++ cutT (T.str w :: args) (some 1) none)] = xs1 at *
  have hp3 : supd S2 p (.lst xs1) p = some (.lst xs1) := supd_same
  have hc3 : supd S2 p (.lst xs1) c = some (.dK (fD fs)) := by rw [supd_ne hpc]; exact hc2
  have d3 : Dk a b (supd S2 p (.lst xs1)) := d2.upd np.1 np.2
  have k3 : Kp a b S (supd S2 p (.lst xs1)) := (k1.trans k2).upd hp
  generalize supd S2 p (.lst xs1) = S3 at *
  clear d2 k2 hp2 hc2 d1 k1 hp1 hc1 hx hxl ht hw2 hperm
  refine ⟨rfl, fun e kvs S4 hext he hS4 hWr => ?_⟩
  have ne := d3.na he
  have he0 := k3.none d3 he
  have hep : e ≠ p := fun x => by rw [x, hp3] at he; cases he
  have hec : e ≠ c := fun x => by rw [x, hc3] at he; cases he
  dsimp only
  rw [u_sDPutT]
  simp only [↓u_sRet, ↓u_sRetN, ↓u_sNext, ↓u_sBrk, ↓u_sCont, ↓u_sSeq, ↓u_sDrop, ↓u_sIf, ↓u_wNil, ↓u_wCons, ↓u_wTup, ↓u_wLst, ↓u_wTst, ↓u_wTru, ↓u_wAnd, ↓u_wOr, ↓u_wNot, ↓u_wAndV, ↓u_wOrV, ↓u_wNotV, ↓u_wIfE, ↓u_wC, ↓u_wOp, ↓u_wUn, ↓u_wCall, ↓u_wChain, ↓u_wIsi, ↓u_wPart, ↓u_wNoPart, ↓u_wSl, ↓u_slT, ↓u_slL, ↓u_wMeth, ↓u_wKGet, ↓u_wInK, ↓u_sAsg, ↓u_exbl, ↓u_exint, ↓u_exstr, ↓u_exref, ↓u_exsome, ↓u_trubl, ↓u_truint, ↓u_trunon, ↓u_trulst, ↓u_trutup, ↓oEq_ss, ↓oEq_ii, ↓oEq_bb, ↓oEq_ni, ↓oNe_ss, ↓oNe_ii, ↓oNe_bb, ↓oEq_l0, ↓oNe_l0, ↓oEq_t0, ↓oNe_t0, ↓oLt_ii, ↓oLe_ii, ↓oGt_ii, ↓oGe_ii, ↓oSub_ii, ↓oAdd_ii, ↓u_lenT, ↓u_lenL, ↓u_isnon, ↓u_ixtup0, ↓u_ixlst0, ↓u_ixtup1, ↓u_ixlst1, ↓u_ixtup2, ↓u_ixlst2, ↓u_ixtup3, ↓u_ixlst3, ↓u_ixtup4, ↓u_ixlst4, ↓u_ixtup5, ↓u_ixlst5, ↓u_v0, ↓u_s0, ↓u_v1, ↓u_s1, ↓u_v2, ↓u_s2, ↓u_v3, ↓u_s3, ↓u_v4, ↓u_s4, ↓u_v5, ↓u_s5, ↓u_v6, ↓u_s6, ↓u_v7, ↓u_s7, ↓u_v8, ↓u_s8, ↓u_v9, ↓u_s9, ↓u_v10, ↓u_s10, ↓u_v11, ↓u_s11, ↓u_v12, ↓u_s12, ↓u_v13, ↓u_s13, ↓u_v14, ↓u_s14, ↓u_v15, ↓u_s15, ↓u_v16, ↓u_s16, ↓u_v17, ↓u_s17, ↓u_v18, ↓u_s18, ↓u_v19, ↓u_s19, if_true, if_false, Bool.false_eq_true, Bool.not_true, Bool.not_false, Bool.true_and, Bool.false_and, Bool.and_true, Bool.and_false, Bool.or_true, Bool.or_false, Bool.true_or, Bool.false_or, true_and, and_true, Option.isSome_some, List.length_cons, List.length_nil, ofS_beq, String.reduceBEq, ↓neg_i, ↓po2, hsl, Nat.reduceAdd, Nat.reduceLeDiff]
  refine ⟨e, _, rfl, dput_of hS4 (by have := hWr.2.1; omega), ?_⟩
  have m4 : Em S4 (supd S4 e (.dK (putT kvs (.inr (Str.ofString "b")) (T.lst [T.int (-1), T.int n, T.bl true, T.non, T.str (Str.ofString "0"), T.tup [T.int 0], T.int (10 ^ 30), T.bl false])))) := fun z hz => by
    have : z ≠ e := fun x => by rw [x, hS4] at hz; cases hz; exact hWr.1 rfl
    rw [supd_ne this]; exact hz
  have hW5 : WrK (supd S4 e (.dK (putT kvs (.inr (Str.ofString "b")) (T.lst [T.int (-1), T.int n, T.bl true, T.non, T.str (Str.ofString "0"), T.tup [T.int 0], T.int (10 ^ 30), T.bl false])))) (putT kvs (.inr (Str.ofString "b")) (T.lst [T.int (-1), T.int n, T.bl true, T.non, T.str (Str.ofString "0"), T.tup [T.int 0], T.int (10 ^ 30), T.bl false])) := by
    refine ⟨put_ne, fun k' hk' => ?_⟩
    rw [val_put]
    by_cases ek : k' = Str.ofString "b"
    · subst ek
      refine ⟨_, if_pos rfl, by simp, fun x hx => okW_ga ?_⟩
      simp only [List.mem_cons, List.not_mem_nil, or_false] at hx
      rcases hx with rfl | rfl | rfl | rfl | rfl | rfl | rfl | rfl
      · exact ga_int _
      · exact ga_int _
      · exact ga_of rfl
      · exact ga_non
      · exact ga_str (by decide +kernel)
      · exact ga_of (by decide +kernel)
      · exact ga_int _
      · exact ga_of rfl
    · rw [if_neg (fun z => ek (Sum.inr.inj z))]
      obtain ⟨zs, h1, h2, h3⟩ := hWr.2.2 k' (by
        rcases List.mem_cons.mp hk' with h | h
        · exact absurd h ek
        · exact h)
      exact ⟨zs, h1, h2, fun x hx => ⟨gt_mono m4 (h3 x hx).1, (h3 x hx).2⟩⟩
  have he5 : supd S4 e (.dK (putT kvs (.inr (Str.ofString "b")) (T.lst [T.int (-1), T.int n, T.bl true, T.non, T.str (Str.ofString "0"), T.tup [T.int 0], T.int (10 ^ 30), T.bl false]))) e = some (.dK (putT kvs (.inr (Str.ofString "b")) (T.lst [T.int (-1), T.int n, T.bl true, T.non, T.str (Str.ofString "0"), T.tup [T.int 0], T.int (10 ^ 30), T.bl false]))) := supd_same
  have hp5 : supd S4 e (.dK (putT kvs (.inr (Str.ofString "b")) (T.lst [T.int (-1), T.int n, T.bl true, T.non, T.str (Str.ofString "0"), T.tup [T.int 0], T.int (10 ^ 30), T.bl false]))) p = some (.lst xs1) := by rw [supd_ne hep.symm]; exact hext _ _ hp3
  have hc5 : supd S4 e (.dK (putT kvs (.inr (Str.ofString "b")) (T.lst [T.int (-1), T.int n, T.bl true, T.non, T.str (Str.ofString "0"), T.tup [T.int 0], T.int (10 ^ 30), T.bl false]))) c = some (.dK (fD fs)) := by rw [supd_ne hec.symm]; exact hext _ _ hc3
  have d5 : Dk a b (supd S4 e (.dK (putT kvs (.inr (Str.ofString "b")) (T.lst [T.int (-1), T.int n, T.bl true, T.non, T.str (Str.ofString "0"), T.tup [T.int 0], T.int (10 ^ 30), T.bl false])))) := (hext.dk d3).upd ne.1 ne.2
  have k5 : Kp a b S (supd S4 e (.dK (putT kvs (.inr (Str.ofString "b")) (T.lst [T.int (-1), T.int n, T.bl true, T.non, T.str (Str.ofString "0"), T.tup [T.int 0], T.int (10 ^ 30), T.bl false])))) := (k3.trans hext.kp).upd he0
  generalize supd S4 e (.dK (putT kvs (.inr (Str.ofString "b")) (T.lst [T.int (-1), T.int n, T.bl true, T.non, T.str (Str.ofString "0"), T.tup [T.int 0], T.int (10 ^ 30), T.bl false]))) = S5 at *
  generalize (putT kvs (.inr (Str.ofString "b")) (T.lst [T.int (-1), T.int n, T.bl true, T.non, T.str (Str.ofString "0"), T.tup [T.int 0], T.int (10 ^ 30), T.bl false])) = kv5 at *
  clear m4 hWr hS4 he hext k3 d3 hc3 hp3 S4 kvs
  have hget : ∀ (l : Sl) (S' : Sto) (R' : Post), S' c = some (.dK (fD fs)) → wDGet (wVar 1) (wOp oIx (wVar 2) (wC (.int 0))) (some (.ref a) :: some (.ref c) :: some (.tup (.str w :: args)) :: l) S' R' = R' (.str ks) S' := by
    intro l S' R' h
    have hdg := dg_fD h w
    rw [hk] at hdg
    rw [u_wDGet]
    simp only [↓u_v1, ↓u_v2, ↓u_wOp, ↓u_wC, ↓e0]
    exact propext ⟨fun ⟨a', t', e, h1, q⟩ => by cases e; rw [hdg] at h1; cases h1; exact q, fun q => ⟨c, _, rfl, hdg, q⟩⟩
  unfold sFor wEnum
  simp only [↓hget _ _ _ hc5]
  refine ⟨_, rfl, ?_⟩
  refine loop_rest (fun rest ρ S1 => ∃ (x6 x7 x8 : Option T) (xs : List T), ρ = [some (.ref a), some (.ref c), some (.tup (.str w :: args)), some (.int n), some (.ref p), some (.ref e), x6, x7, x8] ∧ (∀ t ∈ rest, t ∈ enumT 0 (ks.cps.toList.map fun c => T.str ⟨#[c]⟩)) ∧ xs.length + 5 * rest.length ≤ 1000 ∧ S1 p = some (.lst xs) ∧ Rw S1 xs ∧ S1 e = some (.dK kv5) ∧ WrK S1 kv5 ∧ Dk a b S1 ∧ Kp a b S S1)
    ⟨none, none, none, xs1, rfl, fun t h => h, by rw [enumT_length, List.length_map]; omega, hp5, fun x h => ⟨(hx1 x h).2 _, (hx1 x h).1⟩, he5, hW5, d5, k5⟩ ?_ ?_
  · rintro t rest ρ S1 ⟨x6, x7, x8, xs, rfl, g1, g2, g3, g4, g5, g6, g7, g8⟩
    obtain ⟨i, x, hi, rfl⟩ := enum_mem (g1 t (by simp))
    obtain ⟨cc, hcc, rfl⟩ : ∃ cc, ks.cps.toList[i]? = some cc ∧ x = .str ⟨#[cc]⟩ := by
      rw [List.getElem?_map] at hi
      cases h : ks.cps.toList[i]? with
      | none => rw [h] at hi; cases hi
      | some cc => rw [h] at hi; exact ⟨cc, rfl, (Option.some.inj hi).symm⟩
    rw [Nat.zero_add]
    obtain ⟨hkin, hkst⟩ := hks i cc hcc
    have hik : i < ks.length := by rw [← hlc]; exact (List.getElem?_eq_some_iff.mp hcc).1
    rw [List.length_cons] at g2
    refine ⟨_, rfl, fun nx hnx => ?_⟩
    rw [show List.set (List.set [some (T.ref a), some (T.ref c), some (T.tup (T.str w :: args)), some (T.int n), some (T.ref p), some (T.ref e), x6, x7, x8] 6 (some (.int ((i : Nat) : Int)))) 7 (some (.str ⟨#[cc]⟩)) = [some (T.ref a), some (T.ref c), some (T.tup (T.str w :: args)), some (T.int n), some (T.ref p), some (T.ref e), some (.int ((i : Nat) : Int)), some (.str ⟨#[cc]⟩), x8] from rfl]
    obtain ⟨zs, z1, z2, z3⟩ := g6.2 _ hkin
    have hgw : ∀ (S' : Sto) (R' : Post) (y : Option T), S' e = some (.dK kv5) → wDGet (wVar 5) (wVar 7) [some (T.ref a), some (T.ref c), some (T.tup (T.str w :: args)), some (T.int n), some (T.ref p), some (T.ref e), some (.int ((i : Nat) : Int)), some (.str ⟨#[cc]⟩), y] S' R' = R' (.lst zs) S' := by
      intro S' R' y h
      have hdg : dgT S' e (.str ⟨#[cc]⟩) = some (some (.lst zs)) := by unfold dgT; rw [h]; simp [keyT, z1]
      rw [u_wDGet]
      simp only [↓u_v5, ↓u_v7]
      exact propext ⟨fun ⟨a', t', e, h1, q⟩ => by cases e; rw [hdg] at h1; cases h1; exact q, fun q => ⟨e, _, rfl, hdg, q⟩⟩
    have ei1 : ((i : Nat) : Int) + 1 = ((i + 1 : Nat) : Int) := by omega
    have ei2 : ((i : Nat) : Int) + 2 = ((i + 2 : Nat) : Int) := by omega
    rw [u_sSeq]
    unfold wItems
    simp only [↓u_sRet, ↓u_sRetN, ↓u_sNext, ↓u_sBrk, ↓u_sCont, ↓u_sSeq, ↓u_sDrop, ↓u_sIf, ↓u_wNil, ↓u_wCons, ↓u_wTup, ↓u_wLst, ↓u_wTst, ↓u_wTru, ↓u_wAnd, ↓u_wOr, ↓u_wNot, ↓u_wAndV, ↓u_wOrV, ↓u_wNotV, ↓u_wIfE, ↓u_wC, ↓u_wOp, ↓u_wUn, ↓u_wCall, ↓u_wChain, ↓u_wIsi, ↓u_wPart, ↓u_wNoPart, ↓u_wSl, ↓u_slT, ↓u_slL, ↓u_wMeth, ↓u_wKGet, ↓u_wInK, ↓u_sAsg, ↓u_exbl, ↓u_exint, ↓u_exstr, ↓u_exref, ↓u_exsome, ↓u_trubl, ↓u_truint, ↓u_trunon, ↓u_trulst, ↓u_trutup, ↓oEq_ss, ↓oEq_ii, ↓oEq_bb, ↓oEq_ni, ↓oNe_ss, ↓oNe_ii, ↓oNe_bb, ↓oEq_l0, ↓oNe_l0, ↓oEq_t0, ↓oNe_t0, ↓oLt_ii, ↓oLe_ii, ↓oGt_ii, ↓oGe_ii, ↓oSub_ii, ↓oAdd_ii, ↓u_lenT, ↓u_lenL, ↓u_isnon, ↓u_ixtup0, ↓u_ixlst0, ↓u_ixtup1, ↓u_ixlst1, ↓u_ixtup2, ↓u_ixlst2, ↓u_ixtup3, ↓u_ixlst3, ↓u_ixtup4, ↓u_ixlst4, ↓u_ixtup5, ↓u_ixlst5, ↓u_v0, ↓u_s0, ↓u_v1, ↓u_s1, ↓u_v2, ↓u_s2, ↓u_v3, ↓u_s3, ↓u_v4, ↓u_s4, ↓u_v5, ↓u_s5, ↓u_v6, ↓u_s6, ↓u_v7, ↓u_s7, ↓u_v8, ↓u_s8, ↓u_v9, ↓u_s9, ↓u_v10, ↓u_s10, ↓u_v11, ↓u_s11, ↓u_v12, ↓u_s12, ↓u_v13, ↓u_s13, ↓u_v14, ↓u_s14, ↓u_v15, ↓u_s15, ↓u_v16, ↓u_s16, ↓u_v17, ↓u_s17, ↓u_v18, ↓u_s18, ↓u_v19, ↓u_s19, if_true, if_false, Bool.false_eq_true, Bool.not_true, Bool.not_false, Bool.true_and, Bool.false_and, Bool.and_true, Bool.and_false, Bool.or_true, Bool.or_false, Bool.true_or, Bool.false_or, true_and, and_true, Option.isSome_some, List.length_cons, List.length_nil, ofS_beq, String.reduceBEq, ↓hgw _ _ _ g5]
    refine sh_of g7 rfl (by omega) fun d ys S2 f1 f2 f3 f4 f5 f6 => ?_
    rw [slC f2]
    refine ⟨_, rfl, ?_⟩
    have nd := g7.na f1
    have hdp : d ≠ p := fun x => by rw [x, g3] at f1; cases f1
    have hde : d ≠ e := fun x => by rw [x, g5] at f1; cases f1
    refine loop_rest (fun rest2 ρ S1' => ∃ (x8 : Option T) (xs' : List T), ρ = [some (T.ref a), some (T.ref c), some (T.tup (T.str w :: args)), some (T.int n), some (T.ref p), some (T.ref e), some (.int ((i : Nat) : Int)), some (.str ⟨#[cc]⟩), x8] ∧ (∀ y ∈ rest2, y ∈ zs) ∧ xs'.length + rest2.length ≤ xs.length + 4 ∧ S1' p = some (.lst xs') ∧ Rw S1' xs' ∧ S1' e = some (.dK kv5) ∧ WrK S1' kv5 ∧ Dk a b S1' ∧ Kp a b S S1')
      ⟨x8, xs, rfl, fun y hy => f4 y (cut_mem hy), by have := cut_len4 ys 4; exact Nat.add_le_add_left this _, f6 _ _ np.1 np.2 g3, g4.em (Kp.em g7 f6), f6 _ _ ne.1 ne.2 g5, g6.em (Kp.em g7 f6), f5, g8.trans f6⟩ ?_ ?_
    · rintro y rest2 ρ S3 ⟨y8, xs', rfl, b1, b2, b3, b4, b5, b6, b7, b8⟩
      refine ⟨_, rfl, fun nx2 hnx2 => ?_⟩
      rw [show List.set [some (T.ref a), some (T.ref c), some (T.tup (T.str w :: args)), some (T.int n), some (T.ref p), some (T.ref e), some (.int ((i : Nat) : Int)), some (.str ⟨#[cc]⟩), y8] 8 (some y) = [some (T.ref a), some (T.ref c), some (T.tup (T.str w :: args)), some (T.int n), some (T.ref p), some (T.ref e), some (.int ((i : Nat) : Int)), some (.str ⟨#[cc]⟩), some y] from rfl]
      rw [List.length_cons] at b2
      have hy := b1 y (by simp)
      obtain ⟨zs', z1', _, z3'⟩ := b6.2 _ hkin
      rw [z1] at z1'
      cases z1'
      have oky := z3' y hy
      have gi := gt_ins (S := S3) (row := T.str w :: args) (at_ := i) (x := y) hrow (by omega) (by omega) oky.1 (fun h => oky.2 fun z => by have := hkst z; omega)
      simp only [↓u_sRet, ↓u_sRetN, ↓u_sNext, ↓u_sBrk, ↓u_sCont, ↓u_sSeq, ↓u_sDrop, ↓u_sIf, ↓u_wNil, ↓u_wCons, ↓u_wTup, ↓u_wLst, ↓u_wTst, ↓u_wTru, ↓u_wAnd, ↓u_wOr, ↓u_wNot, ↓u_wAndV, ↓u_wOrV, ↓u_wNotV, ↓u_wIfE, ↓u_wC, ↓u_wOp, ↓u_wUn, ↓u_wCall, ↓u_wChain, ↓u_wIsi, ↓u_wPart, ↓u_wNoPart, ↓u_wSl, ↓u_slT, ↓u_slL, ↓u_wMeth, ↓u_wKGet, ↓u_wInK, ↓u_sAsg, ↓u_exbl, ↓u_exint, ↓u_exstr, ↓u_exref, ↓u_exsome, ↓u_trubl, ↓u_truint, ↓u_trunon, ↓u_trulst, ↓u_trutup, ↓oEq_ss, ↓oEq_ii, ↓oEq_bb, ↓oEq_ni, ↓oNe_ss, ↓oNe_ii, ↓oNe_bb, ↓oEq_l0, ↓oNe_l0, ↓oEq_t0, ↓oNe_t0, ↓oLt_ii, ↓oLe_ii, ↓oGt_ii, ↓oGe_ii, ↓oSub_ii, ↓oAdd_ii, ↓u_lenT, ↓u_lenL, ↓u_isnon, ↓u_ixtup0, ↓u_ixlst0, ↓u_ixtup1, ↓u_ixlst1, ↓u_ixtup2, ↓u_ixlst2, ↓u_ixtup3, ↓u_ixlst3, ↓u_ixtup4, ↓u_ixlst4, ↓u_ixtup5, ↓u_ixlst5, ↓u_v0, ↓u_s0, ↓u_v1, ↓u_s1, ↓u_v2, ↓u_s2, ↓u_v3, ↓u_s3, ↓u_v4, ↓u_s4, ↓u_v5, ↓u_s5, ↓u_v6, ↓u_s6, ↓u_v7, ↓u_s7, ↓u_v8, ↓u_s8, ↓u_v9, ↓u_s9, ↓u_v10, ↓u_s10, ↓u_v11, ↓u_s11, ↓u_v12, ↓u_s12, ↓u_v13, ↓u_s13, ↓u_v14, ↓u_s14, ↓u_v15, ↓u_s15, ↓u_v16, ↓u_s16, ↓u_v17, ↓u_s17, ↓u_v18, ↓u_s18, ↓u_v19, ↓u_s19, if_true, if_false, Bool.false_eq_true, Bool.not_true, Bool.not_false, Bool.true_and, Bool.false_and, Bool.and_true, Bool.and_false, Bool.or_true, Bool.or_false, Bool.true_or, Bool.false_or, true_and, and_true, Option.isSome_some, List.length_cons, List.length_nil, ofS_beq, String.reduceBEq, ty_ref b3, ei1, ei2, cutN (T.str w :: args) (i + 1) (by omega), cutF (T.str w :: args) (i + 2), hsl, Nat.reduceAdd, Nat.reduceLeDiff]
      rw [add_tt (by simp; omega)]
      show oAdd _ _ _ _
      rw [add_tt (by simp; omega)]
      show oAppend _ _ _ _
      rw [app_eq (l := xs') b3 (by omega)]
      exact hnx2 _ _ ⟨_, _, rfl, fun y' h => b1 y' (by simp [h]), by rw [List.length_append, List.length_singleton]; omega, supd_same, (b4.snoc gi).em (em_upd b3), by rw [supd_ne hep]; exact b5, b6.em (em_upd b3), b7.upd np.1 np.2, b8.upd hp⟩
    · rintro ρ S3 ⟨y8, xs', rfl, b1, b2, b3, b4, b5, b6, b7, b8⟩
      rw [List.length_nil] at b2
      simp only [↓u_sRet, ↓u_sRetN, ↓u_sNext, ↓u_sBrk, ↓u_sCont, ↓u_sSeq, ↓u_sDrop, ↓u_sIf, ↓u_wNil, ↓u_wCons, ↓u_wTup, ↓u_wLst, ↓u_wTst, ↓u_wTru, ↓u_wAnd, ↓u_wOr, ↓u_wNot, ↓u_wAndV, ↓u_wOrV, ↓u_wNotV, ↓u_wIfE, ↓u_wC, ↓u_wOp, ↓u_wUn, ↓u_wCall, ↓u_wChain, ↓u_wIsi, ↓u_wPart, ↓u_wNoPart, ↓u_wSl, ↓u_slT, ↓u_slL, ↓u_wMeth, ↓u_wKGet, ↓u_wInK, ↓u_sAsg, ↓u_exbl, ↓u_exint, ↓u_exstr, ↓u_exref, ↓u_exsome, ↓u_trubl, ↓u_truint, ↓u_trunon, ↓u_trulst, ↓u_trutup, ↓oEq_ss, ↓oEq_ii, ↓oEq_bb, ↓oEq_ni, ↓oNe_ss, ↓oNe_ii, ↓oNe_bb, ↓oEq_l0, ↓oNe_l0, ↓oEq_t0, ↓oNe_t0, ↓oLt_ii, ↓oLe_ii, ↓oGt_ii, ↓oGe_ii, ↓oSub_ii, ↓oAdd_ii, ↓u_lenT, ↓u_lenL, ↓u_isnon, ↓u_ixtup0, ↓u_ixlst0, ↓u_ixtup1, ↓u_ixlst1, ↓u_ixtup2, ↓u_ixlst2, ↓u_ixtup3, ↓u_ixlst3, ↓u_ixtup4, ↓u_ixlst4, ↓u_ixtup5, ↓u_ixlst5, ↓u_v0, ↓u_s0, ↓u_v1, ↓u_s1, ↓u_v2, ↓u_s2, ↓u_v3, ↓u_s3, ↓u_v4, ↓u_s4, ↓u_v5, ↓u_s5, ↓u_v6, ↓u_s6, ↓u_v7, ↓u_s7, ↓u_v8, ↓u_s8, ↓u_v9, ↓u_s9, ↓u_v10, ↓u_s10, ↓u_v11, ↓u_s11, ↓u_v12, ↓u_s12, ↓u_v13, ↓u_s13, ↓u_v14, ↓u_s14, ↓u_v15, ↓u_s15, ↓u_v16, ↓u_s16, ↓u_v17, ↓u_s17, ↓u_v18, ↓u_s18, ↓u_v19, ↓u_s19, if_true, if_false, Bool.false_eq_true, Bool.not_true, Bool.not_false, Bool.true_and, Bool.false_and, Bool.and_true, Bool.and_false, Bool.or_true, Bool.or_false, Bool.true_or, Bool.false_or, true_and, and_true, Option.isSome_some, List.length_cons, List.length_nil, ofS_beq, String.reduceBEq, ty_ref b3, ei1, ei2, cutN (T.str w :: args) (i + 1) (by omega), cutF (T.str w :: args) (i + 2), hsl, Nat.reduceAdd, Nat.reduceLeDiff]
      refine ⟨a, b, _, n, rfl, b7, hn0, hn1, fun t S4 h1 h2 h3 => ?_⟩
      have b3' := h3 _ _ np.1 np.2 b3
      have gi := gt_ins (S := S4) (row := T.str w :: args) (at_ := i) (x := t) hrow (by omega) (by omega) (h1.2 _) (fun _ => h1.1)
      show oAdd _ _ _ _
      rw [add_tt (by simp; omega)]
      show oAdd _ _ _ _
      rw [add_tt (by simp; omega)]
      show oAppend _ _ _ _
      rw [app_eq (l := xs') b3' (by omega)]
      exact hnx _ _ ⟨_, _, _, _, rfl, fun t' h => g1 t' (by simp [h]), by rw [List.length_append, List.length_singleton]; omega, supd_same, ((b4.em (Kp.em b7 h3)).snoc gi).em (em_upd b3'), by rw [supd_ne hep]; exact h3 _ _ ne.1 ne.2 b5, (b6.em (Kp.em b7 h3)).em (em_upd b3'), h2.upd np.1 np.2, (b8.trans h3).upd hp⟩
  · rintro ρ S1 ⟨x6, x7, x8, xs, rfl, g1, g2, g3, g4, g5, g6, g7, g8⟩
    rw [List.length_nil] at g2
    simp only [↓u_sRet, ↓u_sRetN, ↓u_sNext, ↓u_sBrk, ↓u_sCont, ↓u_sSeq, ↓u_sDrop, ↓u_sIf, ↓u_wNil, ↓u_wCons, ↓u_wTup, ↓u_wLst, ↓u_wTst, ↓u_wTru, ↓u_wAnd, ↓u_wOr, ↓u_wNot, ↓u_wAndV, ↓u_wOrV, ↓u_wNotV, ↓u_wIfE, ↓u_wC, ↓u_wOp, ↓u_wUn, ↓u_wCall, ↓u_wChain, ↓u_wIsi, ↓u_wPart, ↓u_wNoPart, ↓u_wSl, ↓u_slT, ↓u_slL, ↓u_wMeth, ↓u_wKGet, ↓u_wInK, ↓u_sAsg, ↓u_exbl, ↓u_exint, ↓u_exstr, ↓u_exref, ↓u_exsome, ↓u_trubl, ↓u_truint, ↓u_trunon, ↓u_trulst, ↓u_trutup, ↓oEq_ss, ↓oEq_ii, ↓oEq_bb, ↓oEq_ni, ↓oNe_ss, ↓oNe_ii, ↓oNe_bb, ↓oEq_l0, ↓oNe_l0, ↓oEq_t0, ↓oNe_t0, ↓oLt_ii, ↓oLe_ii, ↓oGt_ii, ↓oGe_ii, ↓oSub_ii, ↓oAdd_ii, ↓u_lenT, ↓u_lenL, ↓u_isnon, ↓u_ixtup0, ↓u_ixlst0, ↓u_ixtup1, ↓u_ixlst1, ↓u_ixtup2, ↓u_ixlst2, ↓u_ixtup3, ↓u_ixlst3, ↓u_ixtup4, ↓u_ixlst4, ↓u_ixtup5, ↓u_ixlst5, ↓u_v0, ↓u_s0, ↓u_v1, ↓u_s1, ↓u_v2, ↓u_s2, ↓u_v3, ↓u_s3, ↓u_v4, ↓u_s4, ↓u_v5, ↓u_s5, ↓u_v6, ↓u_s6, ↓u_v7, ↓u_s7, ↓u_v8, ↓u_s8, ↓u_v9, ↓u_s9, ↓u_v10, ↓u_s10, ↓u_v11, ↓u_s11, ↓u_v12, ↓u_s12, ↓u_v13, ↓u_s13, ↓u_v14, ↓u_s14, ↓u_v15, ↓u_s15, ↓u_v16, ↓u_s16, ↓u_v17, ↓u_s17, ↓u_v18, ↓u_s18, ↓u_v19, ↓u_s19, if_true, if_false, Bool.false_eq_true, Bool.not_true, Bool.not_false, Bool.true_and, Bool.false_and, Bool.and_true, Bool.and_false, Bool.or_true, Bool.or_false, Bool.true_or, Bool.false_or, true_and, and_true, Option.isSome_some, List.length_cons, List.length_nil, ofS_beq, String.reduceBEq]
    exact q p xs S1 hp g3 (by omega) g4 g7 g8
end TL.K

set_option Elab.async false
set_option linter.all false
set_option maxRecDepth 100000
set_option maxHeartbeats 8000000
namespace TL.K
open PySem L2 PyProof.Rows
theorem GB.ga {x : T} (h : GB x) : GA x := by
  obtain ⟨rows, e, rfl, hl, hr, he⟩ := h
  exact ga_two (ga_tup (by omega) hr) he
theorem add_rl {S : Sto} {p : Addr} {xs ys : List T} {R : Post} (h : S p = some (.lst xs)) (hl : xs.length + ys.length ≤ sizeLine) : (oAdd (.ref p) (.lst ys) S R) = (R (.lst (xs ++ ys)) S) := by
  apply propext
  have e : oAdd (.ref p) (.lst ys) S R = ∃ a b, asL S (.ref p) = some a ∧ asL S (.lst ys) = some b ∧ a.length + b.length ≤ sizeLine ∧ R (.lst (a ++ b)) S := rfl
  rw [e]
  constructor
  · rintro ⟨a, b, h1, h2, _, q⟩
    simp only [asL, h] at h1 h2
    cases h1; cases h2
    exact q
  · exact fun q => ⟨xs, ys, by simp [asL, h], rfl, hl, q⟩
theorem addC_of {S : Sto} {x y : T} {xs ys : List T} {R : Post} (h : asL S x = some xs) (h2 : asL S y = some ys) (hl : xs.length + ys.length ≤ sizeLine) (q : ∀ p, S p = none → R (.ref p) (supd S p (.lst (xs ++ ys)))) : oAddC x y S R := ⟨xs, ys, h, h2, hl, q⟩
theorem put_of {c : T} {bs : List T} {i : Int} {x : T} {S : Sto} {R : Post} (h0 : 0 ≤ i) (h1 : i < ((bs.length : Nat) : Int)) (hl : bs.length ≤ 1000) (q : R (.tup [c, .tup (bs.take i.toNat ++ [x] ++ bs.drop (i.toNat + 1))]) S) : sp_law_put [.tup [c, .tup bs], .int i, x] S R := ⟨c, bs, i, x, rfl, h0, h1, hl, q⟩
theorem ga_three {x y z : T} (hx : GA x) (hy : GA y) (hz : GA z) : GA (.tup [x, y, z]) := ga_tup (by simp) fun t ht => by
  simp only [List.mem_cons, List.not_mem_nil, or_false] at ht
  rcases ht with rfl | rfl | rfl
  · exact hx
  · exact hy
  · exact hz
theorem ga_one {x : T} (hx : GA x) : GA (.tup [x]) := ga_tup (by simp) fun t ht => by rw [List.mem_singleton.mp ht]; exact hx
theorem ga_lst {xs : List T} : GA (.lst xs) := ⟨rfl, fun S => by simp only [GT]⟩
theorem ga_nil : GA (.tup []) := ga_tup (by simp) (by simp)
def Rg (S : Sto) (xs : List T) : Prop := ∀ x ∈ xs, GT S x
theorem Rg.em {S S' : Sto} {xs : List T} (h : Rg S xs) (e : Em S S') : Rg S' xs := fun x hx => gt_mono e (h x hx)
theorem Rg.snoc {S : Sto} {xs : List T} {x : T} (h : Rg S xs) (g : GT S x) : Rg S (xs ++ [x]) := fun y hy => by
  rcases List.mem_append.mp hy with hy | hy
  · exact h y hy
  · rw [List.mem_singleton.mp hy]; exact g
theorem Rg.app {S : Sto} {xs ys : List T} (h : Rg S xs) (g : Rg S ys) : Rg S (xs ++ ys) := fun y hy => by
  rcases List.mem_append.mp hy with hy | hy
  · exact h y hy
  · exact g y hy
theorem rg_ga {S : Sto} {xs : List T} (h : ∀ x ∈ xs, GA x) : Rg S xs := fun x hx => (h x hx).2 S
theorem ok_law_near_graphs : ∀ ts S R, sp_law_near_graphs ts S R → w_law_near_graphs { nx := fun _ S' => R .non S', rt := R } (startT n_law_near_graphs ts) S := by
  rintro ts S R ⟨a, b, t, rfl, ⟨c, bs, rfl, hne, hbl, hbs⟩, hd, q⟩
  rw [show startT n_law_near_graphs [.ref a, .tup [.int c, .tup bs]] = [some (.ref a), some (.tup [.int c, .tup bs]), none, none, none, none, none, none, none, none] from rfl]
  unfold w_law_near_graphs
  have hsl := sizeLine_eq
  have hb0 : 0 < bs.length := List.length_pos_iff.mpr hne
  have gbs : GA (.tup bs) := ga_tup (by omega) fun x hx => (hbs x hx).ga
  simp only [↓u_sRet, ↓u_sRetN, ↓u_sNext, ↓u_sBrk, ↓u_sCont, ↓u_sSeq, ↓u_sDrop, ↓u_sIf, ↓u_wNil, ↓u_wCons, ↓u_wTup, ↓u_wLst, ↓u_wTst, ↓u_wTru, ↓u_wAnd, ↓u_wOr, ↓u_wNot, ↓u_wAndV, ↓u_wOrV, ↓u_wNotV, ↓u_wIfE, ↓u_wC, ↓u_wOp, ↓u_wUn, ↓u_wCall, ↓u_wChain, ↓u_wIsi, ↓u_wPart, ↓u_wNoPart, ↓u_wSl, ↓u_slT, ↓u_slL, ↓u_wMeth, ↓u_wKGet, ↓u_wInK, ↓u_sAsg, ↓u_exbl, ↓u_exint, ↓u_exstr, ↓u_exref, ↓u_exsome, ↓u_trubl, ↓u_truint, ↓u_trunon, ↓u_trulst, ↓u_trutup, ↓oEq_ss, ↓oEq_ii, ↓oEq_bb, ↓oEq_ni, ↓oNe_ss, ↓oNe_ii, ↓oNe_bb, ↓oEq_l0, ↓oNe_l0, ↓oEq_t0, ↓oNe_t0, ↓oLt_ii, ↓oLe_ii, ↓oGt_ii, ↓oGe_ii, ↓oSub_ii, ↓oAdd_ii, ↓u_lenT, ↓u_lenL, ↓u_isnon, ↓u_ixtup0, ↓u_ixlst0, ↓u_ixtup1, ↓u_ixlst1, ↓u_ixtup2, ↓u_ixlst2, ↓u_ixtup3, ↓u_ixlst3, ↓u_ixtup4, ↓u_ixlst4, ↓u_ixtup5, ↓u_ixlst5, ↓u_v0, ↓u_s0, ↓u_v1, ↓u_s1, ↓u_v2, ↓u_s2, ↓u_v3, ↓u_s3, ↓u_v4, ↓u_s4, ↓u_v5, ↓u_s5, ↓u_v6, ↓u_s6, ↓u_v7, ↓u_s7, ↓u_v8, ↓u_s8, ↓u_v9, ↓u_s9, ↓u_v10, ↓u_s10, ↓u_v11, ↓u_s11, ↓u_v12, ↓u_s12, ↓u_v13, ↓u_s13, ↓u_v14, ↓u_s14, ↓u_v15, ↓u_s15, ↓u_v16, ↓u_s16, ↓u_v17, ↓u_s17, ↓u_v18, ↓u_s18, ↓u_v19, ↓u_s19, if_true, if_false, Bool.false_eq_true, Bool.not_true, Bool.not_false, Bool.true_and, Bool.false_and, Bool.and_true, Bool.and_false, Bool.or_true, Bool.or_false, Bool.true_or, Bool.false_or, true_and, and_true, Option.isSome_some, List.length_cons, List.length_nil, ofS_beq, String.reduceBEq]
  refine ⟨_, rfl, ?_⟩
  rw [show List.set (List.set [some (T.ref a), some (T.tup [T.int c, T.tup bs]), none, none, none, none, none, none, none, none] 2 (some (.int c))) 3 (some (.tup bs)) = [some (T.ref a), some (T.tup [T.int c, T.tup bs]), some (.int c), some (.tup bs), none, none, none, none, none, none] from rfl]
  simp only [↓u_sRet, ↓u_sRetN, ↓u_sNext, ↓u_sBrk, ↓u_sCont, ↓u_sSeq, ↓u_sDrop, ↓u_sIf, ↓u_wNil, ↓u_wCons, ↓u_wTup, ↓u_wLst, ↓u_wTst, ↓u_wTru, ↓u_wAnd, ↓u_wOr, ↓u_wNot, ↓u_wAndV, ↓u_wOrV, ↓u_wNotV, ↓u_wIfE, ↓u_wC, ↓u_wOp, ↓u_wUn, ↓u_wCall, ↓u_wChain, ↓u_wIsi, ↓u_wPart, ↓u_wNoPart, ↓u_wSl, ↓u_slT, ↓u_slL, ↓u_wMeth, ↓u_wKGet, ↓u_wInK, ↓u_sAsg, ↓u_exbl, ↓u_exint, ↓u_exstr, ↓u_exref, ↓u_exsome, ↓u_trubl, ↓u_truint, ↓u_trunon, ↓u_trulst, ↓u_trutup, ↓oEq_ss, ↓oEq_ii, ↓oEq_bb, ↓oEq_ni, ↓oNe_ss, ↓oNe_ii, ↓oNe_bb, ↓oEq_l0, ↓oNe_l0, ↓oEq_t0, ↓oNe_t0, ↓oLt_ii, ↓oLe_ii, ↓oGt_ii, ↓oGe_ii, ↓oSub_ii, ↓oAdd_ii, ↓u_lenT, ↓u_lenL, ↓u_isnon, ↓u_ixtup0, ↓u_ixlst0, ↓u_ixtup1, ↓u_ixlst1, ↓u_ixtup2, ↓u_ixlst2, ↓u_ixtup3, ↓u_ixlst3, ↓u_ixtup4, ↓u_ixlst4, ↓u_ixtup5, ↓u_ixlst5, ↓u_v0, ↓u_s0, ↓u_v1, ↓u_s1, ↓u_v2, ↓u_s2, ↓u_v3, ↓u_s3, ↓u_v4, ↓u_s4, ↓u_v5, ↓u_s5, ↓u_v6, ↓u_s6, ↓u_v7, ↓u_s7, ↓u_v8, ↓u_s8, ↓u_v9, ↓u_s9, ↓u_v10, ↓u_s10, ↓u_v11, ↓u_s11, ↓u_v12, ↓u_s12, ↓u_v13, ↓u_s13, ↓u_v14, ↓u_s14, ↓u_v15, ↓u_s15, ↓u_v16, ↓u_s16, ↓u_v17, ↓u_s17, ↓u_v18, ↓u_s18, ↓u_v19, ↓u_s19, if_true, if_false, Bool.false_eq_true, Bool.not_true, Bool.not_false, Bool.true_and, Bool.false_and, Bool.and_true, Bool.and_false, Bool.or_true, Bool.or_false, Bool.true_or, Bool.false_or, true_and, and_true, Option.isSome_some, List.length_cons, List.length_nil, ofS_beq, String.reduceBEq]
  refine draw_of hd (by omega) (by omega) fun i S1 i0 i1 d1 k1 => ?_
  obtain ⟨k, rfl⟩ : ∃ k : Nat, i = ((k : Nat) : Int) := ⟨i.toNat, by omega⟩
  have hk : k < bs.length := by omega
  obtain ⟨rows, e, hx, hrl, hr, he⟩ := hbs bs[k] (List.getElem_mem hk)
  have hix : ∀ (S' : Sto) (R' : Post), oIx (.tup bs) (.int ((k : Nat) : Int)) S' R' = R' (.tup [.tup rows, .tup e]) S' := fun S' R' => propext (oIx_t (at_nat (by rw [List.getElem?_eq_getElem hk, hx])))
  have gro : GA (.tup rows) := ga_tup (by omega) hr
  simp only [↓u_sRet, ↓u_sRetN, ↓u_sNext, ↓u_sBrk, ↓u_sCont, ↓u_sSeq, ↓u_sDrop, ↓u_sIf, ↓u_wNil, ↓u_wCons, ↓u_wTup, ↓u_wLst, ↓u_wTst, ↓u_wTru, ↓u_wAnd, ↓u_wOr, ↓u_wNot, ↓u_wAndV, ↓u_wOrV, ↓u_wNotV, ↓u_wIfE, ↓u_wC, ↓u_wOp, ↓u_wUn, ↓u_wCall, ↓u_wChain, ↓u_wIsi, ↓u_wPart, ↓u_wNoPart, ↓u_wSl, ↓u_slT, ↓u_slL, ↓u_wMeth, ↓u_wKGet, ↓u_wInK, ↓u_sAsg, ↓u_exbl, ↓u_exint, ↓u_exstr, ↓u_exref, ↓u_exsome, ↓u_trubl, ↓u_truint, ↓u_trunon, ↓u_trulst, ↓u_trutup, ↓oEq_ss, ↓oEq_ii, ↓oEq_bb, ↓oEq_ni, ↓oNe_ss, ↓oNe_ii, ↓oNe_bb, ↓oEq_l0, ↓oNe_l0, ↓oEq_t0, ↓oNe_t0, ↓oLt_ii, ↓oLe_ii, ↓oGt_ii, ↓oGe_ii, ↓oSub_ii, ↓oAdd_ii, ↓u_lenT, ↓u_lenL, ↓u_isnon, ↓u_ixtup0, ↓u_ixlst0, ↓u_ixtup1, ↓u_ixlst1, ↓u_ixtup2, ↓u_ixlst2, ↓u_ixtup3, ↓u_ixlst3, ↓u_ixtup4, ↓u_ixlst4, ↓u_ixtup5, ↓u_ixlst5, ↓u_v0, ↓u_s0, ↓u_v1, ↓u_s1, ↓u_v2, ↓u_s2, ↓u_v3, ↓u_s3, ↓u_v4, ↓u_s4, ↓u_v5, ↓u_s5, ↓u_v6, ↓u_s6, ↓u_v7, ↓u_s7, ↓u_v8, ↓u_s8, ↓u_v9, ↓u_s9, ↓u_v10, ↓u_s10, ↓u_v11, ↓u_s11, ↓u_v12, ↓u_s12, ↓u_v13, ↓u_s13, ↓u_v14, ↓u_s14, ↓u_v15, ↓u_s15, ↓u_v16, ↓u_s16, ↓u_v17, ↓u_s17, ↓u_v18, ↓u_s18, ↓u_v19, ↓u_s19, if_true, if_false, Bool.false_eq_true, Bool.not_true, Bool.not_false, Bool.true_and, Bool.false_and, Bool.and_true, Bool.and_false, Bool.or_true, Bool.or_false, Bool.true_or, Bool.false_or, true_and, and_true, Option.isSome_some, List.length_cons, List.length_nil, ofS_beq, String.reduceBEq, ↓hix]
  refine ⟨_, rfl, ?_⟩
  rw [show List.set (List.set [some (T.ref a), some (T.tup [T.int c, T.tup bs]), some (.int c), some (.tup bs), some (.int ((k : Nat) : Int)), none, none, none, none, none] 5 (some (.tup rows))) 6 (some (.tup e)) = [some (T.ref a), some (T.tup [T.int c, T.tup bs]), some (.int c), some (.tup bs), some (.int ((k : Nat) : Int)), some (.tup rows), some (.tup e), none, none, none] from rfl]
  simp only [↓u_sRet, ↓u_sRetN, ↓u_sNext, ↓u_sBrk, ↓u_sCont, ↓u_sSeq, ↓u_sDrop, ↓u_sIf, ↓u_wNil, ↓u_wCons, ↓u_wTup, ↓u_wLst, ↓u_wTst, ↓u_wTru, ↓u_wAnd, ↓u_wOr, ↓u_wNot, ↓u_wAndV, ↓u_wOrV, ↓u_wNotV, ↓u_wIfE, ↓u_wC, ↓u_wOp, ↓u_wUn, ↓u_wCall, ↓u_wChain, ↓u_wIsi, ↓u_wPart, ↓u_wNoPart, ↓u_wSl, ↓u_slT, ↓u_slL, ↓u_wMeth, ↓u_wKGet, ↓u_wInK, ↓u_sAsg, ↓u_exbl, ↓u_exint, ↓u_exstr, ↓u_exref, ↓u_exsome, ↓u_trubl, ↓u_truint, ↓u_trunon, ↓u_trulst, ↓u_trutup, ↓oEq_ss, ↓oEq_ii, ↓oEq_bb, ↓oEq_ni, ↓oNe_ss, ↓oNe_ii, ↓oNe_bb, ↓oEq_l0, ↓oNe_l0, ↓oEq_t0, ↓oNe_t0, ↓oLt_ii, ↓oLe_ii, ↓oGt_ii, ↓oGe_ii, ↓oSub_ii, ↓oAdd_ii, ↓u_lenT, ↓u_lenL, ↓u_isnon, ↓u_ixtup0, ↓u_ixlst0, ↓u_ixtup1, ↓u_ixlst1, ↓u_ixtup2, ↓u_ixlst2, ↓u_ixtup3, ↓u_ixlst3, ↓u_ixtup4, ↓u_ixlst4, ↓u_ixtup5, ↓u_ixlst5, ↓u_v0, ↓u_s0, ↓u_v1, ↓u_s1, ↓u_v2, ↓u_s2, ↓u_v3, ↓u_s3, ↓u_v4, ↓u_s4, ↓u_v5, ↓u_s5, ↓u_v6, ↓u_s6, ↓u_v7, ↓u_s7, ↓u_v8, ↓u_s8, ↓u_v9, ↓u_s9, ↓u_v10, ↓u_s10, ↓u_v11, ↓u_s11, ↓u_v12, ↓u_s12, ↓u_v13, ↓u_s13, ↓u_v14, ↓u_s14, ↓u_v15, ↓u_s15, ↓u_v16, ↓u_s16, ↓u_v17, ↓u_s17, ↓u_v18, ↓u_s18, ↓u_v19, ↓u_s19, if_true, if_false, Bool.false_eq_true, Bool.not_true, Bool.not_false, Bool.true_and, Bool.false_and, Bool.and_true, Bool.and_false, Bool.or_true, Bool.or_false, Bool.true_or, Bool.false_or, true_and, and_true, Option.isSome_some, List.length_cons, List.length_nil, ofS_beq, String.reduceBEq, hsl, Nat.reduceAdd, Nat.reduceLeDiff]
  rw [list_t (by omega)]
  generalize hf0 : [T.tup [T.int c, T.lst bs], T.tup [T.int c, T.tup []], T.tup [T.int c], T.lst [T.int c, T.tup bs], T.tup [T.int c, T.tup bs, T.tup []], T.tup bs, T.non, T.tup [], T.str (Str.ofString "graph")] = fs0
  have gf0 : ∀ x ∈ fs0, GA x := by
    rw [← hf0]
    intro x hx
    simp only [List.mem_cons, List.not_mem_nil, or_false] at hx
    rcases hx with rfl | rfl | rfl | rfl | rfl | rfl | rfl | rfl | rfl
    · exact ga_two (ga_int _) ga_lst
    · exact ga_two (ga_int _) ga_nil
    · exact ga_one (ga_int _)
    · exact ga_lst
    · exact ga_three (ga_int _) gbs ga_nil
    · exact gbs
    · exact ga_non
    · exact ga_nil
    · exact ga_str (by decide +kernel)
  have lf0 : fs0.length = 9 := by rw [← hf0]; rfl
  clear hf0
  show wLc _ _ _ _ _ _ _ _
  refine wLc_map (t := .tup [T.int (-1), T.bl true, T.non, T.str (Str.ofString "0"), T.tup [T.int 0], T.bl false, T.lst [], T.int 5, T.int (10 ^ 30)]) (ts := [T.int (-1), T.bl true, T.non, T.str (Str.ofString "0"), T.tup [T.int 0], T.bl false, T.lst [], T.int 5, T.int (10 ^ 30)]) (fun x => .tup [x, .tup bs]) (fun R' q' => ?_) rfl (by simp; omega) (fun x hx => ⟨_, rfl, fun R' q' => ?_⟩) ?_
  · simp only [↓u_sRet, ↓u_sRetN, ↓u_sNext, ↓u_sBrk, ↓u_sCont, ↓u_sSeq, ↓u_sDrop, ↓u_sIf, ↓u_wNil, ↓u_wCons, ↓u_wTup, ↓u_wLst, ↓u_wTst, ↓u_wTru, ↓u_wAnd, ↓u_wOr, ↓u_wNot, ↓u_wAndV, ↓u_wOrV, ↓u_wNotV, ↓u_wIfE, ↓u_wC, ↓u_wOp, ↓u_wUn, ↓u_wCall, ↓u_wChain, ↓u_wIsi, ↓u_wPart, ↓u_wNoPart, ↓u_wSl, ↓u_slT, ↓u_slL, ↓u_wMeth, ↓u_wKGet, ↓u_wInK, ↓u_sAsg, ↓u_exbl, ↓u_exint, ↓u_exstr, ↓u_exref, ↓u_exsome, ↓u_trubl, ↓u_truint, ↓u_trunon, ↓u_trulst, ↓u_trutup, ↓oEq_ss, ↓oEq_ii, ↓oEq_bb, ↓oEq_ni, ↓oNe_ss, ↓oNe_ii, ↓oNe_bb, ↓oEq_l0, ↓oNe_l0, ↓oEq_t0, ↓oNe_t0, ↓oLt_ii, ↓oLe_ii, ↓oGt_ii, ↓oGe_ii, ↓oSub_ii, ↓oAdd_ii, ↓u_lenT, ↓u_lenL, ↓u_isnon, ↓u_ixtup0, ↓u_ixlst0, ↓u_ixtup1, ↓u_ixlst1, ↓u_ixtup2, ↓u_ixlst2, ↓u_ixtup3, ↓u_ixlst3, ↓u_ixtup4, ↓u_ixlst4, ↓u_ixtup5, ↓u_ixlst5, ↓u_v0, ↓u_s0, ↓u_v1, ↓u_s1, ↓u_v2, ↓u_s2, ↓u_v3, ↓u_s3, ↓u_v4, ↓u_s4, ↓u_v5, ↓u_s5, ↓u_v6, ↓u_s6, ↓u_v7, ↓u_s7, ↓u_v8, ↓u_s8, ↓u_v9, ↓u_s9, ↓u_v10, ↓u_s10, ↓u_v11, ↓u_s11, ↓u_v12, ↓u_s12, ↓u_v13, ↓u_s13, ↓u_v14, ↓u_s14, ↓u_v15, ↓u_s15, ↓u_v16, ↓u_s16, ↓u_v17, ↓u_s17, ↓u_v18, ↓u_s18, ↓u_v19, ↓u_s19, if_true, if_false, Bool.false_eq_true, Bool.not_true, Bool.not_false, Bool.true_and, Bool.false_and, Bool.and_true, Bool.and_false, Bool.or_true, Bool.or_false, Bool.true_or, Bool.false_or, true_and, and_true, Option.isSome_some, List.length_cons, List.length_nil, ofS_beq, String.reduceBEq, ↓neg_i, ↓po2, hsl, Nat.reduceAdd, Nat.reduceLeDiff]
    exact q'
  · show wTup _ [some (T.ref a), some (T.tup [T.int c, T.tup bs]), some (.int c), some (.tup bs), some (.int ((k : Nat) : Int)), some (.tup rows), some (.tup e), some (.lst fs0), none, some x] S1 R'
    simp only [↓u_sRet, ↓u_sRetN, ↓u_sNext, ↓u_sBrk, ↓u_sCont, ↓u_sSeq, ↓u_sDrop, ↓u_sIf, ↓u_wNil, ↓u_wCons, ↓u_wTup, ↓u_wLst, ↓u_wTst, ↓u_wTru, ↓u_wAnd, ↓u_wOr, ↓u_wNot, ↓u_wAndV, ↓u_wOrV, ↓u_wNotV, ↓u_wIfE, ↓u_wC, ↓u_wOp, ↓u_wUn, ↓u_wCall, ↓u_wChain, ↓u_wIsi, ↓u_wPart, ↓u_wNoPart, ↓u_wSl, ↓u_slT, ↓u_slL, ↓u_wMeth, ↓u_wKGet, ↓u_wInK, ↓u_sAsg, ↓u_exbl, ↓u_exint, ↓u_exstr, ↓u_exref, ↓u_exsome, ↓u_trubl, ↓u_truint, ↓u_trunon, ↓u_trulst, ↓u_trutup, ↓oEq_ss, ↓oEq_ii, ↓oEq_bb, ↓oEq_ni, ↓oNe_ss, ↓oNe_ii, ↓oNe_bb, ↓oEq_l0, ↓oNe_l0, ↓oEq_t0, ↓oNe_t0, ↓oLt_ii, ↓oLe_ii, ↓oGt_ii, ↓oGe_ii, ↓oSub_ii, ↓oAdd_ii, ↓u_lenT, ↓u_lenL, ↓u_isnon, ↓u_ixtup0, ↓u_ixlst0, ↓u_ixtup1, ↓u_ixlst1, ↓u_ixtup2, ↓u_ixlst2, ↓u_ixtup3, ↓u_ixlst3, ↓u_ixtup4, ↓u_ixlst4, ↓u_ixtup5, ↓u_ixlst5, ↓u_v0, ↓u_s0, ↓u_v1, ↓u_s1, ↓u_v2, ↓u_s2, ↓u_v3, ↓u_s3, ↓u_v4, ↓u_s4, ↓u_v5, ↓u_s5, ↓u_v6, ↓u_s6, ↓u_v7, ↓u_s7, ↓u_v8, ↓u_s8, ↓u_v9, ↓u_s9, ↓u_v10, ↓u_s10, ↓u_v11, ↓u_s11, ↓u_v12, ↓u_s12, ↓u_v13, ↓u_s13, ↓u_v14, ↓u_s14, ↓u_v15, ↓u_s15, ↓u_v16, ↓u_s16, ↓u_v17, ↓u_s17, ↓u_v18, ↓u_s18, ↓u_v19, ↓u_s19, if_true, if_false, Bool.false_eq_true, Bool.not_true, Bool.not_false, Bool.true_and, Bool.false_and, Bool.and_true, Bool.and_false, Bool.or_true, Bool.or_false, Bool.true_or, Bool.false_or, true_and, and_true, Option.isSome_some, List.length_cons, List.length_nil, ofS_beq, String.reduceBEq, hsl, Nat.reduceAdd, Nat.reduceLeDiff]
    exact q'
  generalize hf1 : List.map (fun x => T.tup [x, T.tup bs]) [T.int (-1), T.bl true, T.non, T.str (Str.ofString "0"), T.tup [T.int 0], T.bl false, T.lst [], T.int 5, T.int (10 ^ 30)] = fs1
  have gf1 : ∀ x ∈ fs1, GA x := by
    rw [← hf1]
    intro x hx
    obtain ⟨y, hy, rfl⟩ := List.mem_map.mp hx
    exact ga_two (gal_of (ts := [T.int (-1), T.bl true, T.non, T.str (Str.ofString "0"), T.tup [T.int 0], T.bl false, T.lst [], T.int 5, T.int (10 ^ 30)]) (by decide +kernel) y hy) gbs
  have lf1 : fs1.length = 9 := by rw [← hf1]; rfl
  clear hf1
  show oAdd _ _ _ _
  rw [add_ll (by omega)]
  rw [u_newK]
  intro z hz
  have hz1 : supd S1 z (.dK []) z = some (.dK []) := supd_same
  have d2 : Dk a b (supd S1 z (.dK [])) := (ext_new hz).dk d1
  have k2 : Kp a b S (supd S1 z (.dK [])) := k1.trans (ext_new hz).kp
  generalize supd S1 z (.dK []) = S2 at *
  refine addC_of rfl rfl (by simp; omega) fun p hp => ?_
  have np := d2.na hp
  have hp0 := k2.none d2 hp
  have gx : Rg S2 (fs0 ++ fs1 ++ [T.tup [T.int 0, T.tup bs], T.tup [T.int 4, T.tup bs], T.ref z, T.int 0]) := by
    refine Rg.app (Rg.app (rg_ga gf0) (rg_ga gf1)) fun x hx => ?_
    simp only [List.mem_cons, List.not_mem_nil, or_false] at hx
    rcases hx with rfl | rfl | rfl | rfl
    · exact (ga_two (ga_int _) gbs).2 _
    · exact (ga_two (ga_int _) gbs).2 _
    · simp only [GT]; exact hz1
    · exact (ga_int _).2 _
  have lx : (fs0 ++ fs1 ++ [T.tup [T.int 0, T.tup bs], T.tup [T.int 4, T.tup bs], T.ref z, T.int 0]).length = 22 := by simp [lf0, lf1]
  generalize fs0 ++ fs1 ++ [T.tup [T.int 0, T.tup bs], T.tup [T.int 4, T.tup bs], T.ref z, T.int 0] = xs0 at *
  have hp3 : supd S2 p (.lst xs0) p = some (.lst xs0) := supd_same
  have gx3 : Rg (supd S2 p (.lst xs0)) xs0 := gx.em (em_new hp)
  have d3 : Dk a b (supd S2 p (.lst xs0)) := d2.upd np.1 np.2
  have k3 : Kp a b S (supd S2 p (.lst xs0)) := k2.upd hp0
  generalize supd S2 p (.lst xs0) = S3 at *
  unfold sFor wItems
  simp only [↓u_sRet, ↓u_sRetN, ↓u_sNext, ↓u_sBrk, ↓u_sCont, ↓u_sSeq, ↓u_sDrop, ↓u_sIf, ↓u_wNil, ↓u_wCons, ↓u_wTup, ↓u_wLst, ↓u_wTst, ↓u_wTru, ↓u_wAnd, ↓u_wOr, ↓u_wNot, ↓u_wAndV, ↓u_wOrV, ↓u_wNotV, ↓u_wIfE, ↓u_wC, ↓u_wOp, ↓u_wUn, ↓u_wCall, ↓u_wChain, ↓u_wIsi, ↓u_wPart, ↓u_wNoPart, ↓u_wSl, ↓u_slT, ↓u_slL, ↓u_wMeth, ↓u_wKGet, ↓u_wInK, ↓u_sAsg, ↓u_exbl, ↓u_exint, ↓u_exstr, ↓u_exref, ↓u_exsome, ↓u_trubl, ↓u_truint, ↓u_trunon, ↓u_trulst, ↓u_trutup, ↓oEq_ss, ↓oEq_ii, ↓oEq_bb, ↓oEq_ni, ↓oNe_ss, ↓oNe_ii, ↓oNe_bb, ↓oEq_l0, ↓oNe_l0, ↓oEq_t0, ↓oNe_t0, ↓oLt_ii, ↓oLe_ii, ↓oGt_ii, ↓oGe_ii, ↓oSub_ii, ↓oAdd_ii, ↓u_lenT, ↓u_lenL, ↓u_isnon, ↓u_ixtup0, ↓u_ixlst0, ↓u_ixtup1, ↓u_ixlst1, ↓u_ixtup2, ↓u_ixlst2, ↓u_ixtup3, ↓u_ixlst3, ↓u_ixtup4, ↓u_ixlst4, ↓u_ixtup5, ↓u_ixlst5, ↓u_v0, ↓u_s0, ↓u_v1, ↓u_s1, ↓u_v2, ↓u_s2, ↓u_v3, ↓u_s3, ↓u_v4, ↓u_s4, ↓u_v5, ↓u_s5, ↓u_v6, ↓u_s6, ↓u_v7, ↓u_s7, ↓u_v8, ↓u_s8, ↓u_v9, ↓u_s9, ↓u_v10, ↓u_s10, ↓u_v11, ↓u_s11, ↓u_v12, ↓u_s12, ↓u_v13, ↓u_s13, ↓u_v14, ↓u_s14, ↓u_v15, ↓u_s15, ↓u_v16, ↓u_s16, ↓u_v17, ↓u_s17, ↓u_v18, ↓u_s18, ↓u_v19, ↓u_s19, if_true, if_false, Bool.false_eq_true, Bool.not_true, Bool.not_false, Bool.true_and, Bool.false_and, Bool.and_true, Bool.and_false, Bool.or_true, Bool.or_false, Bool.true_or, Bool.false_or, true_and, and_true, Option.isSome_some, List.length_cons, List.length_nil, ofS_beq, String.reduceBEq, hsl, Nat.reduceAdd, Nat.reduceLeDiff]
  rw [list_t (by omega)]
  refine ⟨_, rfl, ?_⟩
  have lrest : [T.tup [T.tup rows], T.tup [T.tup rows, T.tup e, T.tup []], T.lst [T.tup rows, T.tup e], T.tup [T.lst rows, T.tup e], T.tup [T.tup rows, T.non], T.tup [T.tup e, T.tup rows], T.tup rows, T.tup e, T.tup [T.tup rows, T.tup rows], T.non].length = 10 := rfl
  have grest : ∀ x ∈ [T.tup [T.tup rows], T.tup [T.tup rows, T.tup e, T.tup []], T.lst [T.tup rows, T.tup e], T.tup [T.lst rows, T.tup e], T.tup [T.tup rows, T.non], T.tup [T.tup e, T.tup rows], T.tup rows, T.tup e, T.tup [T.tup rows, T.tup rows], T.non], GA x := by
    intro x hx
    simp only [List.mem_cons, List.not_mem_nil, or_false] at hx
    rcases hx with rfl | rfl | rfl | rfl | rfl | rfl | rfl | rfl | rfl | rfl
    · exact ga_one gro
    · exact ga_three gro he ga_nil
    · exact ga_lst
    · exact ga_two ga_lst he
    · exact ga_two gro ga_non
    · exact ga_two he gro
    · exact gro
    · exact he
    · exact ga_two gro gro
    · exact ga_non
  generalize [T.tup [T.tup rows], T.tup [T.tup rows, T.tup e, T.tup []], T.lst [T.tup rows, T.tup e], T.tup [T.lst rows, T.tup e], T.tup [T.tup rows, T.non], T.tup [T.tup e, T.tup rows], T.tup rows, T.tup e, T.tup [T.tup rows, T.tup rows], T.non] = blks at *
  refine loop_rest (fun rest ρ S1 => S1 = S1 ∧ ∃ (x8 x9 : Option T) (xs : List T), ρ = [some (T.ref a), some (T.tup [T.int c, T.tup bs]), some (T.int c), some (T.tup bs), some (T.int ((k : Nat) : Int)), some (T.tup rows), some (T.tup e), some (.ref p), x8, x9] ∧ (∀ x ∈ rest, GA x) ∧ xs.length + rest.length = 32 ∧ S1 p = some (.lst xs) ∧ Rg S1 xs ∧ Dk a b S1 ∧ Kp a b S S1) ⟨rfl, none, none, xs0, rfl, grest, by omega, hp3, gx3, d3, k3⟩ ?_ ?_
  · rintro t rest ρ S4 ⟨_, x8, x9, xs, rfl, g1, g2, g3, g4, g5, g6⟩
    rw [List.length_cons] at g2
    refine ⟨_, rfl, fun nx hnx => ?_⟩
    rw [show List.set [some (T.ref a), some (T.tup [T.int c, T.tup bs]), some (T.int c), some (T.tup bs), some (T.int ((k : Nat) : Int)), some (T.tup rows), some (T.tup e), some (.ref p), x8, x9] 8 (some t) = [some (T.ref a), some (T.tup [T.int c, T.tup bs]), some (T.int c), some (T.tup bs), some (T.int ((k : Nat) : Int)), some (T.tup rows), some (T.tup e), some (.ref p), some t, x9] from rfl]
    simp only [↓u_sRet, ↓u_sRetN, ↓u_sNext, ↓u_sBrk, ↓u_sCont, ↓u_sSeq, ↓u_sDrop, ↓u_sIf, ↓u_wNil, ↓u_wCons, ↓u_wTup, ↓u_wLst, ↓u_wTst, ↓u_wTru, ↓u_wAnd, ↓u_wOr, ↓u_wNot, ↓u_wAndV, ↓u_wOrV, ↓u_wNotV, ↓u_wIfE, ↓u_wC, ↓u_wOp, ↓u_wUn, ↓u_wCall, ↓u_wChain, ↓u_wIsi, ↓u_wPart, ↓u_wNoPart, ↓u_wSl, ↓u_slT, ↓u_slL, ↓u_wMeth, ↓u_wKGet, ↓u_wInK, ↓u_sAsg, ↓u_exbl, ↓u_exint, ↓u_exstr, ↓u_exref, ↓u_exsome, ↓u_trubl, ↓u_truint, ↓u_trunon, ↓u_trulst, ↓u_trutup, ↓oEq_ss, ↓oEq_ii, ↓oEq_bb, ↓oEq_ni, ↓oNe_ss, ↓oNe_ii, ↓oNe_bb, ↓oEq_l0, ↓oNe_l0, ↓oEq_t0, ↓oNe_t0, ↓oLt_ii, ↓oLe_ii, ↓oGt_ii, ↓oGe_ii, ↓oSub_ii, ↓oAdd_ii, ↓u_lenT, ↓u_lenL, ↓u_isnon, ↓u_ixtup0, ↓u_ixlst0, ↓u_ixtup1, ↓u_ixlst1, ↓u_ixtup2, ↓u_ixlst2, ↓u_ixtup3, ↓u_ixlst3, ↓u_ixtup4, ↓u_ixlst4, ↓u_ixtup5, ↓u_ixlst5, ↓u_v0, ↓u_s0, ↓u_v1, ↓u_s1, ↓u_v2, ↓u_s2, ↓u_v3, ↓u_s3, ↓u_v4, ↓u_s4, ↓u_v5, ↓u_s5, ↓u_v6, ↓u_s6, ↓u_v7, ↓u_s7, ↓u_v8, ↓u_s8, ↓u_v9, ↓u_s9, ↓u_v10, ↓u_s10, ↓u_v11, ↓u_s11, ↓u_v12, ↓u_s12, ↓u_v13, ↓u_s13, ↓u_v14, ↓u_s14, ↓u_v15, ↓u_s15, ↓u_v16, ↓u_s16, ↓u_v17, ↓u_s17, ↓u_v18, ↓u_s18, ↓u_v19, ↓u_s19, if_true, if_false, Bool.false_eq_true, Bool.not_true, Bool.not_false, Bool.true_and, Bool.false_and, Bool.and_true, Bool.and_false, Bool.or_true, Bool.or_false, Bool.true_or, Bool.false_or, true_and, and_true, Option.isSome_some, List.length_cons, List.length_nil, ofS_beq, String.reduceBEq, ty_ref g3]
    refine put_of (by omega) (by omega) (by omega) ?_
    rw [app_eq (l := xs) g3 (by omega)]
    refine hnx _ _ ⟨rfl, _, _, _, rfl, fun x hx => g1 x (by simp [hx]), by rw [List.length_append, List.length_singleton]; omega, supd_same, (g4.snoc ?_).em (em_upd g3), g5.upd np.1 np.2, g6.upd hp0⟩
    refine (ga_two (ga_int _) (ga_tup (by simp; omega) fun y hy => ?_)).2 _
    rcases List.mem_append.mp hy with hy | hy
    · rcases List.mem_append.mp hy with hy | hy
      · exact (hbs y (List.mem_of_mem_take hy)).ga
      · rw [List.mem_singleton.mp hy]; exact g1 t (by simp)
    · exact (hbs y (List.mem_of_mem_drop hy)).ga
  · rintro ρ S4 ⟨_, x8, x9, xs, rfl, g1, g2, g3, g4, g5, g6⟩
    rw [List.length_nil] at g2
    simp only [↓u_sRet, ↓u_sRetN, ↓u_sNext, ↓u_sBrk, ↓u_sCont, ↓u_sSeq, ↓u_sDrop, ↓u_sIf, ↓u_wNil, ↓u_wCons, ↓u_wTup, ↓u_wLst, ↓u_wTst, ↓u_wTru, ↓u_wAnd, ↓u_wOr, ↓u_wNot, ↓u_wAndV, ↓u_wOrV, ↓u_wNotV, ↓u_wIfE, ↓u_wC, ↓u_wOp, ↓u_wUn, ↓u_wCall, ↓u_wChain, ↓u_wIsi, ↓u_wPart, ↓u_wNoPart, ↓u_wSl, ↓u_slT, ↓u_slL, ↓u_wMeth, ↓u_wKGet, ↓u_wInK, ↓u_sAsg, ↓u_exbl, ↓u_exint, ↓u_exstr, ↓u_exref, ↓u_exsome, ↓u_trubl, ↓u_truint, ↓u_trunon, ↓u_trulst, ↓u_trutup, ↓oEq_ss, ↓oEq_ii, ↓oEq_bb, ↓oEq_ni, ↓oNe_ss, ↓oNe_ii, ↓oNe_bb, ↓oEq_l0, ↓oNe_l0, ↓oEq_t0, ↓oNe_t0, ↓oLt_ii, ↓oLe_ii, ↓oGt_ii, ↓oGe_ii, ↓oSub_ii, ↓oAdd_ii, ↓u_lenT, ↓u_lenL, ↓u_isnon, ↓u_ixtup0, ↓u_ixlst0, ↓u_ixtup1, ↓u_ixlst1, ↓u_ixtup2, ↓u_ixlst2, ↓u_ixtup3, ↓u_ixlst3, ↓u_ixtup4, ↓u_ixlst4, ↓u_ixtup5, ↓u_ixlst5, ↓u_v0, ↓u_s0, ↓u_v1, ↓u_s1, ↓u_v2, ↓u_s2, ↓u_v3, ↓u_s3, ↓u_v4, ↓u_s4, ↓u_v5, ↓u_s5, ↓u_v6, ↓u_s6, ↓u_v7, ↓u_s7, ↓u_v8, ↓u_s8, ↓u_v9, ↓u_s9, ↓u_v10, ↓u_s10, ↓u_v11, ↓u_s11, ↓u_v12, ↓u_s12, ↓u_v13, ↓u_s13, ↓u_v14, ↓u_s14, ↓u_v15, ↓u_s15, ↓u_v16, ↓u_s16, ↓u_v17, ↓u_s17, ↓u_v18, ↓u_s18, ↓u_v19, ↓u_s19, if_true, if_false, Bool.false_eq_true, Bool.not_true, Bool.not_false, Bool.true_and, Bool.false_and, Bool.and_true, Bool.and_false, Bool.or_true, Bool.or_false, Bool.true_or, Bool.false_or, true_and, and_true, Option.isSome_some, List.length_cons, List.length_nil, ofS_beq, String.reduceBEq, ↓neg_i, wRevS]
    have c1 := cutT_len bs none (some (-1))
    have c2 := cutT_len bs none (some 1)
    rw [add_tt (by omega)]
    refine .inr ⟨bs, rfl, ?_⟩
    show oAdd _ _ _ _
    rw [add_rl g3 (by simp; omega)]
    refine q _ S4 (by simp; omega) (Rg.app g4 (rg_ga fun x hx => ?_)) g5 g6
    have hsub : ∀ y ∈ bs, GA y := fun y hy => (hbs y hy).ga
    simp only [List.mem_cons, List.not_mem_nil, or_false] at hx
    rcases hx with rfl | rfl | rfl
    · exact ga_two (ga_int _) (ga_tup (by omega) fun y hy => hsub y (cut_mem hy))
    · refine ga_two (ga_int _) (ga_tup (by simp; omega) fun y hy => ?_)
      rcases List.mem_append.mp hy with hy | hy
      · exact hsub y hy
      · exact hsub y (cut_mem hy)
    · exact ga_two (ga_int _) (ga_tup (by simp; omega) fun y hy => hsub y (by simpa using hy))
end TL.K

set_option Elab.async false
set_option linter.all false
set_option maxRecDepth 100000
set_option maxHeartbeats 8000000
namespace TL.K
open PySem L2 PyProof.Rows
theorem ks_forms {w ks : Str} (h : lookF w formsL = some ks) : ∀ (j : Nat) (cc : Nat), ks.cps.toList[j]? = some cc → (⟨#[cc]⟩ : Str) ∈ ("b" : Str) :: kinds12 ∧ ((⟨#[cc]⟩ : Str) = "s" ∨ (⟨#[cc]⟩ : Str) = "t" → 2 ≤ j) := by
  intro j cc hj
  rcases form_of h with ⟨_, rfl⟩ | ⟨_, rfl⟩ | ⟨_, rfl⟩ | ⟨_, rfl⟩ | ⟨_, rfl⟩ | ⟨_, rfl⟩ | ⟨_, rfl⟩ | ⟨_, rfl⟩ | ⟨_, rfl⟩ | ⟨_, rfl⟩ <;>
    simp only [c_vc, c_vv, c_voaa, c_vn, c_na, c_vna, c_naa, c_wfs, c_wvt, c_sa] at hj <;>
    (rcases j with _ | _ | _ | _ | j <;> simp at hj <;> subst hj <;> simp [l_v, l_w, l_a, l_r, l_n, l_f, l_o, l_c, l_s, l_t, l_b, l_k, kinds12, ofS_eq])
theorem ks_ends {w ks : Str} (h : lookF w endsL = some ks) : ∀ (j : Nat) (cc : Nat), ks.cps.toList[j]? = some cc → (⟨#[cc]⟩ : Str) ∈ ("b" : Str) :: kinds12 ∧ ((⟨#[cc]⟩ : Str) = "s" ∨ (⟨#[cc]⟩ : Str) = "t" → 2 ≤ j) := by
  intro j cc hj
  rcases ende_of h with ⟨_, rfl⟩ | ⟨_, rfl⟩ | ⟨_, rfl⟩ | ⟨_, rfl⟩ <;>
    simp only [c_sb, c_abb, c_sr, c_sk] at hj <;>
    (rcases j with _ | _ | _ | _ | j <;> simp at hj <;> subst hj <;> simp [l_v, l_w, l_a, l_r, l_n, l_f, l_o, l_c, l_s, l_t, l_b, l_k, kinds12, ofS_eq])
/-- what stands while the law draws -/
def Jl (a b f e p : Addr) (bound : Nat) (S : Sto) : Prop := ∃ xs, S p = some (.lst xs) ∧ Rg S xs ∧ xs.length + bound ≤ 5000 ∧ S f = some (.dK (fD formsL)) ∧ S e = some (.dK (fD endsL)) ∧ Dk a b S
theorem Jl.kp {a b f e p : Addr} {n : Nat} {S S' : Sto} (h : Jl a b f e p n S) (hf : f ≠ a ∧ f ≠ b) (he : e ≠ a ∧ e ≠ b) (hp : p ≠ a ∧ p ≠ b) (d : Dk a b S') (k : Kp a b S S') : Jl a b f e p n S' := by
  obtain ⟨xs, h1, h2, h3, h4, h5, h6⟩ := h
  exact ⟨xs, k _ _ hp.1 hp.2 h1, h2.em (Kp.em h6 k), h3, k _ _ hf.1 hf.2 h4, k _ _ he.1 he.2 h5, d⟩
theorem Jl.less {a b f e p : Addr} {n m : Nat} {S : Sto} (h : Jl a b f e p n S) (hm : m ≤ n) : Jl a b f e p m S := by
  obtain ⟨xs, h1, h2, h3, h4⟩ := h
  exact ⟨xs, h1, h2, by omega, h4⟩
/-- one thing more -/
theorem Jl.app {a b f e p : Addr} {n : Nat} {S : Sto} {x : T} {R : Post} (h : Jl a b f e p (n + 1) S) (hfp : f ≠ p) (hep : e ≠ p) (hp : p ≠ a ∧ p ≠ b) (g : GT S x) (q : ∀ S', Jl a b f e p n S' → Em S S' → R .non S') : oAppend (.ref p) [x] S R := by
  have hsl := sizeLine_eq
  obtain ⟨xs, h1, h2, h3, h4, h5, h6⟩ := h
  rw [app_eq (l := xs) h1 (by omega)]
  exact q _ ⟨_, supd_same, (h2.snoc g).em (em_upd h1), by rw [List.length_append, List.length_singleton]; omega, by rw [supd_ne hfp]; exact h4, by rw [supd_ne hep]; exact h5, h6.upd hp.1 hp.2⟩ (em_upd h1)
theorem Jl.ty {a b f e p : Addr} {n : Nat} {S : Sto} (h : Jl a b f e p n S) : tyT S (.ref p) = some "list" := by
  obtain ⟨xs, h1, _⟩ := h
  exact ty_ref h1
theorem get_w {S : Sto} {c : Addr} {fs : List (Str × Str)} {w ks : Str} {R : Post} {wd wk : WE} {ρ : Sl} (hd : ∀ (S' : Sto) (R' : Post), wd ρ S' R' = R' (.ref c) S') (hkk : ∀ (S' : Sto) (R' : Post), wk ρ S' R' = R' (.str w) S') (h : S c = some (.dK (fD fs))) (hk : lookF w fs = some ks) : (wDGet wd wk ρ S R) = (R (.str ks) S) := by
  have hdg := dg_fD h w
  rw [hk] at hdg
  rw [u_wDGet, hd, hkk]
  exact propext ⟨fun ⟨a', t', e, h1, q⟩ => by cases e; rw [hdg] at h1; cases h1; exact q, fun q => ⟨c, _, rfl, hdg, q⟩⟩
theorem isnot_bl {x y : Bool} {S : Sto} {R : Post} : (oIsNot (.bl x) (.bl y) S R) = (R (.bl (!decide (x = y))) S) := rfl
theorem u_frz {w : WE} {ρ : Sl} {S : Sto} {R : Post} {p : Addr} {xs : List T} (hw : ∀ R' : Post, R' (.ref p) S → w ρ S R') (h : S p = some (.lst xs)) (q : R (.lst xs) (fun b => if b = p then none else S b)) : wFrz w ρ S R := hw _ ⟨xs, h, q⟩
theorem gt_all {S : Sto} {ys : List T} (h : Rw S ys) (hl : ys.length ≤ 10000) : GT S (.tup ys) ∧ plT (.tup ys) = true := by
  refine ⟨?_, rfl⟩
  simp only [GT]
  exact ⟨hl, gts_of fun i t e => ⟨fun _ => (h t (List.mem_of_getElem? e)).2, (h t (List.mem_of_getElem? e)).1⟩⟩
theorem rw_ga {S : Sto} {ys : List T} (h : ∀ y ∈ ys, GA y) : Rw S ys := fun y hy => ⟨(h y hy).2 S, (h y hy).1⟩
theorem Rw.app {S : Sto} {xs ys : List T} (h : Rw S xs) (g : Rw S ys) : Rw S (xs ++ ys) := fun y hy => by
  rcases List.mem_append.mp hy with hy | hy
  · exact h y hy
  · exact g y hy
theorem rw_two {S : Sto} {x y : T} (hx : GT S x ∧ plT x = true) (hy : GT S y ∧ plT y = true) : Rw S [x, y] := fun t ht => by
  rcases List.mem_cons.mp ht with rfl | ht
  · exact hx
  · rw [List.mem_singleton.mp ht]; exact hy
/-- a graph with another block -/
theorem gt_put {S : Sto} {c : Int} {bs : List T} {k : Nat} {x : T} (hbs : ∀ y ∈ bs, GB y) (hbl : bs.length ≤ 4) (hx : GT S x ∧ plT x = true) : GT S (.tup [.int c, .tup (bs.take k ++ [x] ++ bs.drop (k + 1))]) := by
  refine (gt_all (rw_two ⟨(ga_int c).2 S, rfl⟩ (gt_all (Rw.app (Rw.snoc (rw_ga fun y hy => (hbs y (List.mem_of_mem_take hy)).ga) hx) (rw_ga fun y hy => (hbs y (List.mem_of_mem_drop hy)).ga)) (by simp; omega))) (by simp)).1
theorem ok_law : ∀ ts S R, sp_law ts S R → w_law { nx := fun _ S' => R .non S', rt := R } (startT n_law ts) S := by
  rintro ts S R ⟨ns, rfl, q⟩
  rw [show startT n_law [.arg ns] = [some (.arg ns), none, none, none, none, none, none, none, none, none, none, none, none, none, none, none, none, none] from rfl]
  unfold w_law
  have hsl := sizeLine_eq
  rw [u_sSeq]
  simp only [↓u_s1, ↓u_wCall, ↓u_wCons, ↓u_wNil, ↓u_v0]
  refine ⟨ns, rfl, fun a b S1 _ _ d1 => ?_⟩
  dsimp only
  rw [u_sSeq]
  simp only [↓u_sPar23, ↓u_wCall, ↓u_wCons, ↓u_wNil, ↓u_v1]
  refine ⟨a, b, rfl, d1, fun t S2 hg d2 _ => ?_⟩
  obtain ⟨c, bs, rfl, hne, hbl, hbs⟩ := id hg
  refine ⟨rfl, fun f S3 e3 hf0 hf => ?_⟩
  have d3 := e3.dk d2
  have nf := d2.na hf0
  dsimp only
  rw [u_sSeq]
  simp only [↓u_s4, ↓u_disp, ↓u_p0, ↓u_p1, ↓u_wC]
  refine ⟨fD endsL, rfl, by unfold fD; rw [List.length_map]; decide, fun e he => ?_⟩
  rw [merge_nodup (by simp [endsL, ofS_eq])]
  have ne := d3.na he
  have hef : e ≠ f := fun x => by rw [x, hf] at he; cases he
  have he4 : supd S3 e (.dK (fD endsL)) e = some (.dK (fD endsL)) := supd_same
  have hf4 : supd S3 e (.dK (fD endsL)) f = some (.dK (fD formsL)) := by rw [supd_ne hef.symm]; exact hf
  have d4 : Dk a b (supd S3 e (.dK (fD endsL))) := d3.upd ne.1 ne.2
  generalize supd S3 e (.dK (fD endsL)) = S4 at *
  clear d1 d2 d3 e3 hf0 hf he
  rw [u_sSeq]
  simp only [↓u_sRet, ↓u_sRetN, ↓u_sNext, ↓u_sBrk, ↓u_sCont, ↓u_sSeq, ↓u_sDrop, ↓u_sIf, ↓u_wNil, ↓u_wCons, ↓u_wTup, ↓u_wLst, ↓u_wTst, ↓u_wTru, ↓u_wAnd, ↓u_wOr, ↓u_wNot, ↓u_wAndV, ↓u_wOrV, ↓u_wNotV, ↓u_wIfE, ↓u_wC, ↓u_wOp, ↓u_wUn, ↓u_wCall, ↓u_wChain, ↓u_wIsi, ↓u_wPart, ↓u_wNoPart, ↓u_wSl, ↓u_slT, ↓u_slL, ↓u_wMeth, ↓u_wKGet, ↓u_wInK, ↓u_sAsg, ↓u_exbl, ↓u_exint, ↓u_exstr, ↓u_exref, ↓u_exsome, ↓u_trubl, ↓u_truint, ↓u_trunon, ↓u_trulst, ↓u_trutup, ↓oEq_ss, ↓oEq_ii, ↓oEq_bb, ↓oEq_ni, ↓oNe_ss, ↓oNe_ii, ↓oNe_bb, ↓oEq_l0, ↓oNe_l0, ↓oEq_t0, ↓oNe_t0, ↓oLt_ii, ↓oLe_ii, ↓oGt_ii, ↓oGe_ii, ↓oSub_ii, ↓oAdd_ii, ↓u_lenT, ↓u_lenL, ↓u_isnon, ↓u_ixtup0, ↓u_ixlst0, ↓u_ixtup1, ↓u_ixlst1, ↓u_ixtup2, ↓u_ixlst2, ↓u_ixtup3, ↓u_ixlst3, ↓u_ixtup4, ↓u_ixlst4, ↓u_ixtup5, ↓u_ixlst5, ↓u_v0, ↓u_s0, ↓u_v1, ↓u_s1, ↓u_v2, ↓u_s2, ↓u_v3, ↓u_s3, ↓u_v4, ↓u_s4, ↓u_v5, ↓u_s5, ↓u_v6, ↓u_s6, ↓u_v7, ↓u_s7, ↓u_v8, ↓u_s8, ↓u_v9, ↓u_s9, ↓u_v10, ↓u_s10, ↓u_v11, ↓u_s11, ↓u_v12, ↓u_s12, ↓u_v13, ↓u_s13, ↓u_v14, ↓u_s14, ↓u_v15, ↓u_s15, ↓u_v16, ↓u_s16, ↓u_v17, ↓u_s17, ↓u_v18, ↓u_s18, ↓u_v19, ↓u_s19, if_true, if_false, Bool.false_eq_true, Bool.not_true, Bool.not_false, Bool.true_and, Bool.false_and, Bool.and_true, Bool.and_false, Bool.or_true, Bool.or_false, Bool.true_or, Bool.false_or, true_and, and_true, Option.isSome_some, List.length_cons, List.length_nil, ofS_beq, String.reduceBEq, ↓u_cell]
  refine ⟨a, b, rfl, d4, fun t2 S5 hg2 d5 k5 => ?_⟩
  have f5 := k5 _ _ nf.1 nf.2 hf4
  have e5 := k5 _ _ ne.1 ne.2 he4
  refine ⟨by simp; omega, fun p hp => ?_⟩
  have np := d5.na hp
  have hfp : f ≠ p := fun x => by rw [← x, f5] at hp; cases hp
  have hep : e ≠ p := fun x => by rw [← x, e5] at hp; cases hp
  have hb0 : 0 < bs.length := List.length_pos_iff.mpr hne
  have gbs : GA (.tup bs) := ga_tup (by omega) fun x hx => (hbs x hx).ga
  have gg : GA (.tup [.int c, .tup bs]) := ga_two (ga_int _) gbs
  have gg2 : GA t2 := by
    obtain ⟨c2, bs2, rfl, _, hbl2, hbs2⟩ := hg2
    exact ga_two (ga_int _) (ga_tup (by omega) fun x hx => (hbs2 x hx).ga)
  have j5 : Jl a b f e p 4900 (supd S5 p (.lst [.tup [.int c, .tup bs], t2])) := by
    refine ⟨_, supd_same, rg_ga fun x hx => ?_, by simp, by rw [supd_ne hfp]; exact f5, by rw [supd_ne hep]; exact e5, d5.upd np.1 np.2⟩
    simp only [List.mem_cons, List.not_mem_nil, or_false] at hx
    rcases hx with rfl | rfl
    · exact gg
    · exact gg2
  generalize supd S5 p (.lst [.tup [.int c, .tup bs], t2]) = S6 at *
  clear hg2 d5 k5 f5 e5 hp gg2 d4 hf4 he4
  refine ⟨by omega, _, rfl, ?_⟩
  rw [show List.set (List.set [some (T.arg ns), some (T.ref a), some (T.tup [T.int c, T.tup bs]), some (T.ref f), some (T.ref e), none, none, none, none, none, none, none, none, none, none, none, none, none] 5 (some (.ref p))) 6 (some (.int ((bs.length : Nat) : Int))) = [some (T.arg ns), some (T.ref a), some (T.tup [T.int c, T.tup bs]), some (T.ref f), some (T.ref e), some (T.ref p), some (T.int ((bs.length : Nat) : Int)), none, none, none, none, none, none, none, none, none, none, none] from rfl]
  have kp := fun {n : Nat} {S S' : Sto} (h : Jl a b f e p n S) (d : Dk a b S') (k : Kp a b S S') => h.kp nf ne np d k
  have jd := fun {n : Nat} {S : Sto} (h : Jl a b f e p n S) => h.choose_spec.2.2.2.2.2
  have jf := fun {n : Nat} {S : Sto} (h : Jl a b f e p n S) => h.choose_spec.2.2.2.1
  have je := fun {n : Nat} {S : Sto} (h : Jl a b f e p n S) => h.choose_spec.2.2.2.2.1
  -- for turn in range(2)
  unfold sFor
  refine rng1_of (n := 2) (fun R' q' => q') (by decide) (by decide) ?_
  refine loop_rest (fun rest ρ S1 => ∃ x7 x8 x9 x10 x11 x12 x13 x14 x15 x16 x17 : Option T, ρ = [some (T.arg ns), some (T.ref a), some (T.tup [T.int c, T.tup bs]), some (T.ref f), some (T.ref e), some (T.ref p), some (T.int ((bs.length : Nat) : Int)), x7, x8, x9, x10, x11, x12, x13, x14, x15, x16, x17] ∧ Jl a b f e p (1000 + 100 * rest.length) S1) ⟨_, _, _, _, _, _, _, _, _, _, _, rfl, j5.less (by rw [rng_len]; decide)⟩ ?_ ?_
  · rintro t rest ρ S1 ⟨x7, x8, x9, x10, x11, x12, x13, x14, x15, x16, x17, rfl, j1⟩
    refine ⟨_, rfl, fun nx hnx => ?_⟩
    rw [show List.set [some (T.arg ns), some (T.ref a), some (T.tup [T.int c, T.tup bs]), some (T.ref f), some (T.ref e), some (T.ref p), some (T.int ((bs.length : Nat) : Int)), x7, x8, x9, x10, x11, x12, x13, x14, x15, x16, x17] 7 (some t) = [some (T.arg ns), some (T.ref a), some (T.tup [T.int c, T.tup bs]), some (T.ref f), some (T.ref e), some (T.ref p), some (T.int ((bs.length : Nat) : Int)), some t, x8, x9, x10, x11, x12, x13, x14, x15, x16, x17] from rfl]
    rw [List.length_cons] at j1
    rw [u_sSeq]
    unfold wItems
    simp only [↓u_sRet, ↓u_sRetN, ↓u_sNext, ↓u_sBrk, ↓u_sCont, ↓u_sSeq, ↓u_sDrop, ↓u_sIf, ↓u_wNil, ↓u_wCons, ↓u_wTup, ↓u_wLst, ↓u_wTst, ↓u_wTru, ↓u_wAnd, ↓u_wOr, ↓u_wNot, ↓u_wAndV, ↓u_wOrV, ↓u_wNotV, ↓u_wIfE, ↓u_wC, ↓u_wOp, ↓u_wUn, ↓u_wCall, ↓u_wChain, ↓u_wIsi, ↓u_wPart, ↓u_wNoPart, ↓u_wSl, ↓u_slT, ↓u_slL, ↓u_wMeth, ↓u_wKGet, ↓u_wInK, ↓u_sAsg, ↓u_exbl, ↓u_exint, ↓u_exstr, ↓u_exref, ↓u_exsome, ↓u_trubl, ↓u_truint, ↓u_trunon, ↓u_trulst, ↓u_trutup, ↓oEq_ss, ↓oEq_ii, ↓oEq_bb, ↓oEq_ni, ↓oNe_ss, ↓oNe_ii, ↓oNe_bb, ↓oEq_l0, ↓oNe_l0, ↓oEq_t0, ↓oNe_t0, ↓oLt_ii, ↓oLe_ii, ↓oGt_ii, ↓oGe_ii, ↓oSub_ii, ↓oAdd_ii, ↓u_lenT, ↓u_lenL, ↓u_isnon, ↓u_ixtup0, ↓u_ixlst0, ↓u_ixtup1, ↓u_ixlst1, ↓u_ixtup2, ↓u_ixlst2, ↓u_ixtup3, ↓u_ixlst3, ↓u_ixtup4, ↓u_ixlst4, ↓u_ixtup5, ↓u_ixlst5, ↓u_v0, ↓u_s0, ↓u_v1, ↓u_s1, ↓u_v2, ↓u_s2, ↓u_v3, ↓u_s3, ↓u_v4, ↓u_s4, ↓u_v5, ↓u_s5, ↓u_v6, ↓u_s6, ↓u_v7, ↓u_s7, ↓u_v8, ↓u_s8, ↓u_v9, ↓u_s9, ↓u_v10, ↓u_s10, ↓u_v11, ↓u_s11, ↓u_v12, ↓u_s12, ↓u_v13, ↓u_s13, ↓u_v14, ↓u_s14, ↓u_v15, ↓u_s15, ↓u_v16, ↓u_s16, ↓u_v17, ↓u_s17, ↓u_v18, ↓u_s18, ↓u_v19, ↓u_s19, if_true, if_false, Bool.false_eq_true, Bool.not_true, Bool.not_false, Bool.true_and, Bool.false_and, Bool.and_true, Bool.and_false, Bool.or_true, Bool.or_false, Bool.true_or, Bool.false_or, true_and, and_true, Option.isSome_some, List.length_cons, List.length_nil, ofS_beq, String.reduceBEq]
    -- for word in shuffled(sorted(forms))[:5]
    refine sortD_of (jf j1) (by decide) fun ys hperm => ?_
    refine sh_of (jd j1) rfl (by rw [List.length_map, hperm.length_eq]; decide) fun d zs S2 f1 f2 f3 f4 f5 f6 => ?_
    rw [slC f2]
    refine ⟨_, rfl, ?_⟩
    have j2 := kp j1 f5 f6
    refine loop_rest (fun rest2 ρ S1 => ∃ x8 x9 x10 x11 x12 x13 x14 x15 x16 x17 : Option T, ρ = [some (T.arg ns), some (T.ref a), some (T.tup [T.int c, T.tup bs]), some (T.ref f), some (T.ref e), some (T.ref p), some (T.int ((bs.length : Nat) : Int)), some t, x8, x9, x10, x11, x12, x13, x14, x15, x16, x17] ∧ (∀ y ∈ rest2, y ∈ zs) ∧ Jl a b f e p (1000 + 100 * rest.length + 50 + 8 * rest2.length) S1) ⟨_, _, _, _, _, _, _, _, _, _, rfl, fun y hy => cut_mem hy, j2.less (by have : (cutT zs none (some 5)).length ≤ 5 := cut_len4 zs 5; omega)⟩ ?_ ?_
    · rintro y rest2 ρ S3 ⟨x8, x9, x10, x11, x12, x13, x14, x15, x16, x17, rfl, h1, j3⟩
      obtain ⟨w, hw, rfl⟩ := List.mem_map.mp (f4 y (h1 y (by simp)))
      obtain ⟨ks, hk⟩ := look_of (hperm.mem_iff.mp hw)
      rw [List.length_cons] at j3
      refine ⟨_, rfl, fun nx2 hnx2 => ?_⟩
      rw [show List.set [some (T.arg ns), some (T.ref a), some (T.tup [T.int c, T.tup bs]), some (T.ref f), some (T.ref e), some (T.ref p), some (T.int ((bs.length : Nat) : Int)), some t, x8, x9, x10, x11, x12, x13, x14, x15, x16, x17] 8 (some (.str w)) = [some (T.arg ns), some (T.ref a), some (T.tup [T.int c, T.tup bs]), some (T.ref f), some (T.ref e), some (T.ref p), some (T.int ((bs.length : Nat) : Int)), some t, some (.str w), x9, x10, x11, x12, x13, x14, x15, x16, x17] from rfl]
      simp only [↓u_sRet, ↓u_sRetN, ↓u_sNext, ↓u_sBrk, ↓u_sCont, ↓u_sSeq, ↓u_sDrop, ↓u_sIf, ↓u_wNil, ↓u_wCons, ↓u_wTup, ↓u_wLst, ↓u_wTst, ↓u_wTru, ↓u_wAnd, ↓u_wOr, ↓u_wNot, ↓u_wAndV, ↓u_wOrV, ↓u_wNotV, ↓u_wIfE, ↓u_wC, ↓u_wOp, ↓u_wUn, ↓u_wCall, ↓u_wChain, ↓u_wIsi, ↓u_wPart, ↓u_wNoPart, ↓u_wSl, ↓u_slT, ↓u_slL, ↓u_wMeth, ↓u_wKGet, ↓u_wInK, ↓u_sAsg, ↓u_exbl, ↓u_exint, ↓u_exstr, ↓u_exref, ↓u_exsome, ↓u_trubl, ↓u_truint, ↓u_trunon, ↓u_trulst, ↓u_trutup, ↓oEq_ss, ↓oEq_ii, ↓oEq_bb, ↓oEq_ni, ↓oNe_ss, ↓oNe_ii, ↓oNe_bb, ↓oEq_l0, ↓oNe_l0, ↓oEq_t0, ↓oNe_t0, ↓oLt_ii, ↓oLe_ii, ↓oGt_ii, ↓oGe_ii, ↓oSub_ii, ↓oAdd_ii, ↓u_lenT, ↓u_lenL, ↓u_isnon, ↓u_ixtup0, ↓u_ixlst0, ↓u_ixtup1, ↓u_ixlst1, ↓u_ixtup2, ↓u_ixlst2, ↓u_ixtup3, ↓u_ixlst3, ↓u_ixtup4, ↓u_ixlst4, ↓u_ixtup5, ↓u_ixlst5, ↓u_v0, ↓u_s0, ↓u_v1, ↓u_s1, ↓u_v2, ↓u_s2, ↓u_v3, ↓u_s3, ↓u_v4, ↓u_s4, ↓u_v5, ↓u_s5, ↓u_v6, ↓u_s6, ↓u_v7, ↓u_s7, ↓u_v8, ↓u_s8, ↓u_v9, ↓u_s9, ↓u_v10, ↓u_s10, ↓u_v11, ↓u_s11, ↓u_v12, ↓u_s12, ↓u_v13, ↓u_s13, ↓u_v14, ↓u_s14, ↓u_v15, ↓u_s15, ↓u_v16, ↓u_s16, ↓u_v17, ↓u_s17, ↓u_v18, ↓u_s18, ↓u_v19, ↓u_s19, if_true, if_false, Bool.false_eq_true, Bool.not_true, Bool.not_false, Bool.true_and, Bool.false_and, Bool.and_true, Bool.and_false, Bool.or_true, Bool.or_false, Bool.true_or, Bool.false_or, true_and, and_true, Option.isSome_some, List.length_cons, List.length_nil, ofS_beq, String.reduceBEq]
      refine ⟨by omega, ?_⟩
      unfold wLc
      dsimp only
      rw [get_w (wd := wVar 3) (wk := wVar 8) (fun S' R' => u_v3) (fun S' R' => u_v8) (jf j3) hk]
      have hks10 : ks.length ≤ 10 := (fs_forms.2.2.2.1 _ (look_mem hk)).1
      have hlc : ks.cps.toList.length = ks.length := by simp [Str.length]
      refine ⟨_, rfl, by rw [List.length_map, hlc]; omega, ?_⟩
      refine rights_of (n := ((bs.length : Nat) : Int)) (jd j3) (by omega) (by omega) hks10 (fun cc S' R' h => ?_) fun acc S4 a1 a2 a3 a4 => ?_
      · show wCall sp_law_right _ [some (T.arg ns), some (T.ref a), some (T.tup [T.int c, T.tup bs]), some (T.ref f), some (T.ref e), some (T.ref p), some (T.int ((bs.length : Nat) : Int)), some t, some (.str w), x9, x10, x11, x12, x13, x14, x15, x16, some (.str ⟨#[cc]⟩)] S' R'
        simp only [↓u_sRet, ↓u_sRetN, ↓u_sNext, ↓u_sBrk, ↓u_sCont, ↓u_sSeq, ↓u_sDrop, ↓u_sIf, ↓u_wNil, ↓u_wCons, ↓u_wTup, ↓u_wLst, ↓u_wTst, ↓u_wTru, ↓u_wAnd, ↓u_wOr, ↓u_wNot, ↓u_wAndV, ↓u_wOrV, ↓u_wNotV, ↓u_wIfE, ↓u_wC, ↓u_wOp, ↓u_wUn, ↓u_wCall, ↓u_wChain, ↓u_wIsi, ↓u_wPart, ↓u_wNoPart, ↓u_wSl, ↓u_slT, ↓u_slL, ↓u_wMeth, ↓u_wKGet, ↓u_wInK, ↓u_sAsg, ↓u_exbl, ↓u_exint, ↓u_exstr, ↓u_exref, ↓u_exsome, ↓u_trubl, ↓u_truint, ↓u_trunon, ↓u_trulst, ↓u_trutup, ↓oEq_ss, ↓oEq_ii, ↓oEq_bb, ↓oEq_ni, ↓oNe_ss, ↓oNe_ii, ↓oNe_bb, ↓oEq_l0, ↓oNe_l0, ↓oEq_t0, ↓oNe_t0, ↓oLt_ii, ↓oLe_ii, ↓oGt_ii, ↓oGe_ii, ↓oSub_ii, ↓oAdd_ii, ↓u_lenT, ↓u_lenL, ↓u_isnon, ↓u_ixtup0, ↓u_ixlst0, ↓u_ixtup1, ↓u_ixlst1, ↓u_ixtup2, ↓u_ixlst2, ↓u_ixtup3, ↓u_ixlst3, ↓u_ixtup4, ↓u_ixlst4, ↓u_ixtup5, ↓u_ixlst5, ↓u_v0, ↓u_s0, ↓u_v1, ↓u_s1, ↓u_v2, ↓u_s2, ↓u_v3, ↓u_s3, ↓u_v4, ↓u_s4, ↓u_v5, ↓u_s5, ↓u_v6, ↓u_s6, ↓u_v7, ↓u_s7, ↓u_v8, ↓u_s8, ↓u_v9, ↓u_s9, ↓u_v10, ↓u_s10, ↓u_v11, ↓u_s11, ↓u_v12, ↓u_s12, ↓u_v13, ↓u_s13, ↓u_v14, ↓u_s14, ↓u_v15, ↓u_s15, ↓u_v16, ↓u_s16, ↓u_v17, ↓u_s17, ↓u_v18, ↓u_s18, ↓u_v19, ↓u_s19, if_true, if_false, Bool.false_eq_true, Bool.not_true, Bool.not_false, Bool.true_and, Bool.false_and, Bool.and_true, Bool.and_false, Bool.or_true, Bool.or_false, Bool.true_or, Bool.false_or, true_and, and_true, Option.isSome_some, List.length_cons, List.length_nil, ofS_beq, String.reduceBEq]
        exact h
      have j4 := kp j3 a3 a4
      show oAdd _ _ _ _
      rw [add_tt (by simp; omega)]
      refine draw_of (jd j4) (by omega) (by omega) fun i S5 i0 i1 d5 k5 => ?_
      have j5' := kp j4 d5 k5
      obtain ⟨k, rfl⟩ : ∃ k : Nat, i = ((k : Nat) : Int) := ⟨i.toNat, by omega⟩
      have hkb : k < bs.length := by omega
      obtain ⟨rows, en, hx, hrl, hr, hen⟩ := hbs bs[k] (List.getElem_mem hkb)
      have hix : ∀ (S' : Sto) (R' : Post), oIx (.tup bs) (.int ((k : Nat) : Int)) S' R' = R' (.tup [.tup rows, .tup en]) S' := fun S' R' => propext (oIx_t (at_nat (by rw [List.getElem?_eq_getElem hkb, hx])))
      simp only [↓u_sRet, ↓u_sRetN, ↓u_sNext, ↓u_sBrk, ↓u_sCont, ↓u_sSeq, ↓u_sDrop, ↓u_sIf, ↓u_wNil, ↓u_wCons, ↓u_wTup, ↓u_wLst, ↓u_wTst, ↓u_wTru, ↓u_wAnd, ↓u_wOr, ↓u_wNot, ↓u_wAndV, ↓u_wOrV, ↓u_wNotV, ↓u_wIfE, ↓u_wC, ↓u_wOp, ↓u_wUn, ↓u_wCall, ↓u_wChain, ↓u_wIsi, ↓u_wPart, ↓u_wNoPart, ↓u_wSl, ↓u_slT, ↓u_slL, ↓u_wMeth, ↓u_wKGet, ↓u_wInK, ↓u_sAsg, ↓u_exbl, ↓u_exint, ↓u_exstr, ↓u_exref, ↓u_exsome, ↓u_trubl, ↓u_truint, ↓u_trunon, ↓u_trulst, ↓u_trutup, ↓oEq_ss, ↓oEq_ii, ↓oEq_bb, ↓oEq_ni, ↓oNe_ss, ↓oNe_ii, ↓oNe_bb, ↓oEq_l0, ↓oNe_l0, ↓oEq_t0, ↓oNe_t0, ↓oLt_ii, ↓oLe_ii, ↓oGt_ii, ↓oGe_ii, ↓oSub_ii, ↓oAdd_ii, ↓u_lenT, ↓u_lenL, ↓u_isnon, ↓u_ixtup0, ↓u_ixlst0, ↓u_ixtup1, ↓u_ixlst1, ↓u_ixtup2, ↓u_ixlst2, ↓u_ixtup3, ↓u_ixlst3, ↓u_ixtup4, ↓u_ixlst4, ↓u_ixtup5, ↓u_ixlst5, ↓u_v0, ↓u_s0, ↓u_v1, ↓u_s1, ↓u_v2, ↓u_s2, ↓u_v3, ↓u_s3, ↓u_v4, ↓u_s4, ↓u_v5, ↓u_s5, ↓u_v6, ↓u_s6, ↓u_v7, ↓u_s7, ↓u_v8, ↓u_s8, ↓u_v9, ↓u_s9, ↓u_v10, ↓u_s10, ↓u_v11, ↓u_s11, ↓u_v12, ↓u_s12, ↓u_v13, ↓u_s13, ↓u_v14, ↓u_s14, ↓u_v15, ↓u_s15, ↓u_v16, ↓u_s16, ↓u_v17, ↓u_s17, ↓u_v18, ↓u_s18, ↓u_v19, ↓u_s19, if_true, if_false, Bool.false_eq_true, Bool.not_true, Bool.not_false, Bool.true_and, Bool.false_and, Bool.and_true, Bool.and_false, Bool.or_true, Bool.or_false, Bool.true_or, Bool.false_or, true_and, and_true, Option.isSome_some, List.length_cons, List.length_nil, ofS_beq, String.reduceBEq, ↓hix]
      refine ⟨_, rfl, ?_⟩
      rw [show List.set (List.set [some (T.arg ns), some (T.ref a), some (T.tup [T.int c, T.tup bs]), some (T.ref f), some (T.ref e), some (T.ref p), some (T.int ((bs.length : Nat) : Int)), some t, some (.str w), some (.tup ([T.str w] ++ acc)), some (.int ((k : Nat) : Int)), x11, x12, x13, x14, x15, x16, x17] 11 (some (.tup rows))) 12 (some (.tup en)) = [some (T.arg ns), some (T.ref a), some (T.tup [T.int c, T.tup bs]), some (T.ref f), some (T.ref e), some (T.ref p), some (T.int ((bs.length : Nat) : Int)), some t, some (.str w), some (.tup ([T.str w] ++ acc)), some (.int ((k : Nat) : Int)), some (.tup rows), some (.tup en), x13, x14, x15, x16, x17] from rfl]
      simp only [↓u_sRet, ↓u_sRetN, ↓u_sNext, ↓u_sBrk, ↓u_sCont, ↓u_sSeq, ↓u_sDrop, ↓u_sIf, ↓u_wNil, ↓u_wCons, ↓u_wTup, ↓u_wLst, ↓u_wTst, ↓u_wTru, ↓u_wAnd, ↓u_wOr, ↓u_wNot, ↓u_wAndV, ↓u_wOrV, ↓u_wNotV, ↓u_wIfE, ↓u_wC, ↓u_wOp, ↓u_wUn, ↓u_wCall, ↓u_wChain, ↓u_wIsi, ↓u_wPart, ↓u_wNoPart, ↓u_wSl, ↓u_slT, ↓u_slL, ↓u_wMeth, ↓u_wKGet, ↓u_wInK, ↓u_sAsg, ↓u_exbl, ↓u_exint, ↓u_exstr, ↓u_exref, ↓u_exsome, ↓u_trubl, ↓u_truint, ↓u_trunon, ↓u_trulst, ↓u_trutup, ↓oEq_ss, ↓oEq_ii, ↓oEq_bb, ↓oEq_ni, ↓oNe_ss, ↓oNe_ii, ↓oNe_bb, ↓oEq_l0, ↓oNe_l0, ↓oEq_t0, ↓oNe_t0, ↓oLt_ii, ↓oLe_ii, ↓oGt_ii, ↓oGe_ii, ↓oSub_ii, ↓oAdd_ii, ↓u_lenT, ↓u_lenL, ↓u_isnon, ↓u_ixtup0, ↓u_ixlst0, ↓u_ixtup1, ↓u_ixlst1, ↓u_ixtup2, ↓u_ixlst2, ↓u_ixtup3, ↓u_ixlst3, ↓u_ixtup4, ↓u_ixlst4, ↓u_ixtup5, ↓u_ixlst5, ↓u_v0, ↓u_s0, ↓u_v1, ↓u_s1, ↓u_v2, ↓u_s2, ↓u_v3, ↓u_s3, ↓u_v4, ↓u_s4, ↓u_v5, ↓u_s5, ↓u_v6, ↓u_s6, ↓u_v7, ↓u_s7, ↓u_v8, ↓u_s8, ↓u_v9, ↓u_s9, ↓u_v10, ↓u_s10, ↓u_v11, ↓u_s11, ↓u_v12, ↓u_s12, ↓u_v13, ↓u_s13, ↓u_v14, ↓u_s14, ↓u_v15, ↓u_s15, ↓u_v16, ↓u_s16, ↓u_v17, ↓u_s17, ↓u_v18, ↓u_s18, ↓u_v19, ↓u_s19, if_true, if_false, Bool.false_eq_true, Bool.not_true, Bool.not_false, Bool.true_and, Bool.false_and, Bool.and_true, Bool.and_false, Bool.or_true, Bool.or_false, Bool.true_or, Bool.false_or, true_and, and_true, Option.isSome_some, List.length_cons, List.length_nil, ofS_beq, String.reduceBEq]
      refine ⟨by omega, ?_⟩
      refine ⟨a, b, f, _, formsL, w, ks, acc, rfl, jd j5', jf j5', fs_forms, by omega, by omega, hk, a1, a2, ks_forms hk, fun d2 xs S6' m1 m2 m3 m4 m5 m6 => ?_⟩
      have j6 := kp j5' m5 m6
      refine sh_of m5 (by simp [asL, m2]) m3 fun d3 ys3 S7 n1 n2 n3 n4 n5 n6 => ?_
      have j7 := kp j6 n5 n6
      rw [slC n2]
      have hc7 : (cutT ys3 none (some 7)).length ≤ 7 := cut_len4 ys3 7
      show oAdd _ _ _ _
      rw [add_ll (by simp; omega)]
      refine ⟨_, rfl, ?_⟩
      have hacc : GT S7 (.tup ([T.str w] ++ acc)) ∧ plT (.tup ([T.str w] ++ acc)) = true := by
        have hwl : w.length ≤ 100 := fs_forms.2.2.2.2 _ (look_mem hk)
        refine gt_all (Rw.app (rw_ga fun y hy => ?_) (rw_ga a2)) (by simp; omega)
        rw [List.mem_singleton.mp hy]; exact ga_str (by omega)
      refine loop_rest (fun rest3 ρ S1 => ∃ x13 x14 x15 x16 x17 : Option T, ρ = [some (T.arg ns), some (T.ref a), some (T.tup [T.int c, T.tup bs]), some (T.ref f), some (T.ref e), some (T.ref p), some (T.int ((bs.length : Nat) : Int)), some t, some (.str w), some (.tup ([T.str w] ++ acc)), some (.int ((k : Nat) : Int)), some (.tup rows), some (.tup en), x13, x14, x15, x16, x17] ∧ Rw S1 rest3 ∧ Jl a b f e p (1000 + 100 * rest.length + 50 + 8 * rest2.length + rest3.length) S1) ⟨_, _, _, _, _, rfl, Rw.app (fun y hy => by rw [List.mem_singleton.mp hy]; exact hacc) (fun y hy => (Rw.em m4 (Kp.em m5 n6)) y (n4 y (cut_mem hy))), j7.less (by rw [List.length_append, List.length_singleton]; omega)⟩ ?_ ?_
      · rintro y rest3 ρ S8 ⟨x13, x14, x15, x16, x17, rfl, o1, j8⟩
        rw [List.length_cons] at j8
        refine ⟨_, rfl, fun nx3 hnx3 => ?_⟩
        rw [show List.set [some (T.arg ns), some (T.ref a), some (T.tup [T.int c, T.tup bs]), some (T.ref f), some (T.ref e), some (T.ref p), some (T.int ((bs.length : Nat) : Int)), some t, some (.str w), some (.tup ([T.str w] ++ acc)), some (.int ((k : Nat) : Int)), some (.tup rows), some (.tup en), x13, x14, x15, x16, x17] 13 (some y) = [some (T.arg ns), some (T.ref a), some (T.tup [T.int c, T.tup bs]), some (T.ref f), some (T.ref e), some (T.ref p), some (T.int ((bs.length : Nat) : Int)), some t, some (.str w), some (.tup ([T.str w] ++ acc)), some (.int ((k : Nat) : Int)), some (.tup rows), some (.tup en), some y, x14, x15, x16, x17] from rfl]
        simp only [↓u_sRet, ↓u_sRetN, ↓u_sNext, ↓u_sBrk, ↓u_sCont, ↓u_sSeq, ↓u_sDrop, ↓u_sIf, ↓u_wNil, ↓u_wCons, ↓u_wTup, ↓u_wLst, ↓u_wTst, ↓u_wTru, ↓u_wAnd, ↓u_wOr, ↓u_wNot, ↓u_wAndV, ↓u_wOrV, ↓u_wNotV, ↓u_wIfE, ↓u_wC, ↓u_wOp, ↓u_wUn, ↓u_wCall, ↓u_wChain, ↓u_wIsi, ↓u_wPart, ↓u_wNoPart, ↓u_wSl, ↓u_slT, ↓u_slL, ↓u_wMeth, ↓u_wKGet, ↓u_wInK, ↓u_sAsg, ↓u_exbl, ↓u_exint, ↓u_exstr, ↓u_exref, ↓u_exsome, ↓u_trubl, ↓u_truint, ↓u_trunon, ↓u_trulst, ↓u_trutup, ↓oEq_ss, ↓oEq_ii, ↓oEq_bb, ↓oEq_ni, ↓oNe_ss, ↓oNe_ii, ↓oNe_bb, ↓oEq_l0, ↓oNe_l0, ↓oEq_t0, ↓oNe_t0, ↓oLt_ii, ↓oLe_ii, ↓oGt_ii, ↓oGe_ii, ↓oSub_ii, ↓oAdd_ii, ↓u_lenT, ↓u_lenL, ↓u_isnon, ↓u_ixtup0, ↓u_ixlst0, ↓u_ixtup1, ↓u_ixlst1, ↓u_ixtup2, ↓u_ixlst2, ↓u_ixtup3, ↓u_ixlst3, ↓u_ixtup4, ↓u_ixlst4, ↓u_ixtup5, ↓u_ixlst5, ↓u_v0, ↓u_s0, ↓u_v1, ↓u_s1, ↓u_v2, ↓u_s2, ↓u_v3, ↓u_s3, ↓u_v4, ↓u_s4, ↓u_v5, ↓u_s5, ↓u_v6, ↓u_s6, ↓u_v7, ↓u_s7, ↓u_v8, ↓u_s8, ↓u_v9, ↓u_s9, ↓u_v10, ↓u_s10, ↓u_v11, ↓u_s11, ↓u_v12, ↓u_s12, ↓u_v13, ↓u_s13, ↓u_v14, ↓u_s14, ↓u_v15, ↓u_s15, ↓u_v16, ↓u_s16, ↓u_v17, ↓u_s17, ↓u_v18, ↓u_s18, ↓u_v19, ↓u_s19, if_true, if_false, Bool.false_eq_true, Bool.not_true, Bool.not_false, Bool.true_and, Bool.false_and, Bool.and_true, Bool.and_false, Bool.or_true, Bool.or_false, Bool.true_or, Bool.false_or, true_and, and_true, Option.isSome_some, List.length_cons, List.length_nil, ofS_beq, String.reduceBEq]
        refine draw_of (jd j8) (by omega) (by omega) fun i S9 i0 i1 d9 k9 => ?_
        have j9 := kp j8 d9 k9
        obtain ⟨m, rfl⟩ : ∃ k : Nat, i = ((k : Nat) : Int) := ⟨i.toNat, by omega⟩
        simp only [↓u_sRet, ↓u_sRetN, ↓u_sNext, ↓u_sBrk, ↓u_sCont, ↓u_sSeq, ↓u_sDrop, ↓u_sIf, ↓u_wNil, ↓u_wCons, ↓u_wTup, ↓u_wLst, ↓u_wTst, ↓u_wTru, ↓u_wAnd, ↓u_wOr, ↓u_wNot, ↓u_wAndV, ↓u_wOrV, ↓u_wNotV, ↓u_wIfE, ↓u_wC, ↓u_wOp, ↓u_wUn, ↓u_wCall, ↓u_wChain, ↓u_wIsi, ↓u_wPart, ↓u_wNoPart, ↓u_wSl, ↓u_slT, ↓u_slL, ↓u_wMeth, ↓u_wKGet, ↓u_wInK, ↓u_sAsg, ↓u_exbl, ↓u_exint, ↓u_exstr, ↓u_exref, ↓u_exsome, ↓u_trubl, ↓u_truint, ↓u_trunon, ↓u_trulst, ↓u_trutup, ↓oEq_ss, ↓oEq_ii, ↓oEq_bb, ↓oEq_ni, ↓oNe_ss, ↓oNe_ii, ↓oNe_bb, ↓oEq_l0, ↓oNe_l0, ↓oEq_t0, ↓oNe_t0, ↓oLt_ii, ↓oLe_ii, ↓oGt_ii, ↓oGe_ii, ↓oSub_ii, ↓oAdd_ii, ↓u_lenT, ↓u_lenL, ↓u_isnon, ↓u_ixtup0, ↓u_ixlst0, ↓u_ixtup1, ↓u_ixlst1, ↓u_ixtup2, ↓u_ixlst2, ↓u_ixtup3, ↓u_ixlst3, ↓u_ixtup4, ↓u_ixlst4, ↓u_ixtup5, ↓u_ixlst5, ↓u_v0, ↓u_s0, ↓u_v1, ↓u_s1, ↓u_v2, ↓u_s2, ↓u_v3, ↓u_s3, ↓u_v4, ↓u_s4, ↓u_v5, ↓u_s5, ↓u_v6, ↓u_s6, ↓u_v7, ↓u_s7, ↓u_v8, ↓u_s8, ↓u_v9, ↓u_s9, ↓u_v10, ↓u_s10, ↓u_v11, ↓u_s11, ↓u_v12, ↓u_s12, ↓u_v13, ↓u_s13, ↓u_v14, ↓u_s14, ↓u_v15, ↓u_s15, ↓u_v16, ↓u_s16, ↓u_v17, ↓u_s17, ↓u_v18, ↓u_s18, ↓u_v19, ↓u_s19, if_true, if_false, Bool.false_eq_true, Bool.not_true, Bool.not_false, Bool.true_and, Bool.false_and, Bool.and_true, Bool.and_false, Bool.or_true, Bool.or_false, Bool.true_or, Bool.false_or, true_and, and_true, Option.isSome_some, List.length_cons, List.length_nil, ofS_beq, String.reduceBEq, Jl.ty j9, cutN rows m (by omega), cutF rows m]
        rw [add_tt (by simp; omega)]
        refine ⟨by omega, ?_⟩
        show oAdd _ _ _ _
        rw [add_tt (by simp; omega)]
        refine ⟨by omega, put_of (by omega) (by omega) (by omega) ?_⟩
        have hy := (o1.em (Kp.em (jd j8) k9)) y (by simp)
        refine Jl.app (n := 1000 + 100 * rest.length + 50 + 8 * rest2.length + rest3.length) (j9.less (by omega)) hfp hep np ?_ fun S10 j10 m10 => ?_
        · rw [Int.toNat_natCast]
          refine gt_put hbs hbl (gt_all (rw_two (gt_all (Rw.app (Rw.snoc (rw_ga fun z hz => hr z (List.mem_of_mem_take hz)) hy) (rw_ga fun z hz => hr z (List.mem_of_mem_drop hz))) (by simp; omega)) ⟨hen.2 _, hen.1⟩) (by simp))
        · exact hnx3 _ _ ⟨_, _, _, _, _, rfl, fun z hz => ((o1.em (Kp.em (jd j8) k9)).em m10) z (by simp [hz]), j10⟩
      · rintro ρ S8 ⟨x13, x14, x15, x16, x17, rfl, o1, j8⟩
        exact hnx2 _ _ ⟨_, _, _, _, _, _, _, _, _, _, rfl, fun y hy => h1 y (by simp [hy]), j8.less (by simp)⟩
    · rintro ρ S3 ⟨x8, x9, x10, x11, x12, x13, x14, x15, x16, x17, rfl, _, j3⟩
      simp only [↓u_sRet, ↓u_sRetN, ↓u_sNext, ↓u_sBrk, ↓u_sCont, ↓u_sSeq, ↓u_sDrop, ↓u_sIf, ↓u_wNil, ↓u_wCons, ↓u_wTup, ↓u_wLst, ↓u_wTst, ↓u_wTru, ↓u_wAnd, ↓u_wOr, ↓u_wNot, ↓u_wAndV, ↓u_wOrV, ↓u_wNotV, ↓u_wIfE, ↓u_wC, ↓u_wOp, ↓u_wUn, ↓u_wCall, ↓u_wChain, ↓u_wIsi, ↓u_wPart, ↓u_wNoPart, ↓u_wSl, ↓u_slT, ↓u_slL, ↓u_wMeth, ↓u_wKGet, ↓u_wInK, ↓u_sAsg, ↓u_exbl, ↓u_exint, ↓u_exstr, ↓u_exref, ↓u_exsome, ↓u_trubl, ↓u_truint, ↓u_trunon, ↓u_trulst, ↓u_trutup, ↓oEq_ss, ↓oEq_ii, ↓oEq_bb, ↓oEq_ni, ↓oNe_ss, ↓oNe_ii, ↓oNe_bb, ↓oEq_l0, ↓oNe_l0, ↓oEq_t0, ↓oNe_t0, ↓oLt_ii, ↓oLe_ii, ↓oGt_ii, ↓oGe_ii, ↓oSub_ii, ↓oAdd_ii, ↓u_lenT, ↓u_lenL, ↓u_isnon, ↓u_ixtup0, ↓u_ixlst0, ↓u_ixtup1, ↓u_ixlst1, ↓u_ixtup2, ↓u_ixlst2, ↓u_ixtup3, ↓u_ixlst3, ↓u_ixtup4, ↓u_ixlst4, ↓u_ixtup5, ↓u_ixlst5, ↓u_v0, ↓u_s0, ↓u_v1, ↓u_s1, ↓u_v2, ↓u_s2, ↓u_v3, ↓u_s3, ↓u_v4, ↓u_s4, ↓u_v5, ↓u_s5, ↓u_v6, ↓u_s6, ↓u_v7, ↓u_s7, ↓u_v8, ↓u_s8, ↓u_v9, ↓u_s9, ↓u_v10, ↓u_s10, ↓u_v11, ↓u_s11, ↓u_v12, ↓u_s12, ↓u_v13, ↓u_s13, ↓u_v14, ↓u_s14, ↓u_v15, ↓u_s15, ↓u_v16, ↓u_s16, ↓u_v17, ↓u_s17, ↓u_v18, ↓u_s18, ↓u_v19, ↓u_s19, if_true, if_false, Bool.false_eq_true, Bool.not_true, Bool.not_false, Bool.true_and, Bool.false_and, Bool.and_true, Bool.and_false, Bool.or_true, Bool.or_false, Bool.true_or, Bool.false_or, true_and, and_true, Option.isSome_some, List.length_cons, List.length_nil, ofS_beq, String.reduceBEq]
      refine sortD_of (je j3) (by decide) fun ys2 hp2 => ?_
      refine pick_of (jd j3) (fun h0 => ?_) (by rw [List.length_map, hp2.length_eq]; decide) fun y S4' hy d4 k4 => ?_
      · have h0 : ys2 = [] := by simpa using h0
        rw [h0] at hp2
        exact absurd hp2.length_eq (by decide)
      obtain ⟨w, hw, rfl⟩ := List.mem_map.mp hy
      obtain ⟨ks, hk⟩ := look_of (hp2.mem_iff.mp hw)
      have j4 := kp j3 d4 k4
      refine ⟨by omega, ?_⟩
      unfold wLc
      dsimp only
      rw [get_w (wd := wVar 4) (wk := wVar 8) (fun S' R' => u_v4) (fun S' R' => u_v8) (je j4) hk]
      have hks10 : ks.length ≤ 10 := (fs_ends.2.2.2.1 _ (look_mem hk)).1
      have hlc : ks.cps.toList.length = ks.length := by simp [Str.length]
      refine ⟨_, rfl, by rw [List.length_map, hlc]; omega, ?_⟩
      refine rights_of (n := ((bs.length : Nat) : Int)) (jd j4) (by omega) (by omega) hks10 (fun cc S' R' h => ?_) fun acc S5' a1 a2 a3 a4 => ?_
      · show wCall sp_law_right _ [some (T.arg ns), some (T.ref a), some (T.tup [T.int c, T.tup bs]), some (T.ref f), some (T.ref e), some (T.ref p), some (T.int ((bs.length : Nat) : Int)), some t, some (.str w), x9, x10, x11, x12, x13, x14, x15, x16, some (.str ⟨#[cc]⟩)] S' R'
        simp only [↓u_sRet, ↓u_sRetN, ↓u_sNext, ↓u_sBrk, ↓u_sCont, ↓u_sSeq, ↓u_sDrop, ↓u_sIf, ↓u_wNil, ↓u_wCons, ↓u_wTup, ↓u_wLst, ↓u_wTst, ↓u_wTru, ↓u_wAnd, ↓u_wOr, ↓u_wNot, ↓u_wAndV, ↓u_wOrV, ↓u_wNotV, ↓u_wIfE, ↓u_wC, ↓u_wOp, ↓u_wUn, ↓u_wCall, ↓u_wChain, ↓u_wIsi, ↓u_wPart, ↓u_wNoPart, ↓u_wSl, ↓u_slT, ↓u_slL, ↓u_wMeth, ↓u_wKGet, ↓u_wInK, ↓u_sAsg, ↓u_exbl, ↓u_exint, ↓u_exstr, ↓u_exref, ↓u_exsome, ↓u_trubl, ↓u_truint, ↓u_trunon, ↓u_trulst, ↓u_trutup, ↓oEq_ss, ↓oEq_ii, ↓oEq_bb, ↓oEq_ni, ↓oNe_ss, ↓oNe_ii, ↓oNe_bb, ↓oEq_l0, ↓oNe_l0, ↓oEq_t0, ↓oNe_t0, ↓oLt_ii, ↓oLe_ii, ↓oGt_ii, ↓oGe_ii, ↓oSub_ii, ↓oAdd_ii, ↓u_lenT, ↓u_lenL, ↓u_isnon, ↓u_ixtup0, ↓u_ixlst0, ↓u_ixtup1, ↓u_ixlst1, ↓u_ixtup2, ↓u_ixlst2, ↓u_ixtup3, ↓u_ixlst3, ↓u_ixtup4, ↓u_ixlst4, ↓u_ixtup5, ↓u_ixlst5, ↓u_v0, ↓u_s0, ↓u_v1, ↓u_s1, ↓u_v2, ↓u_s2, ↓u_v3, ↓u_s3, ↓u_v4, ↓u_s4, ↓u_v5, ↓u_s5, ↓u_v6, ↓u_s6, ↓u_v7, ↓u_s7, ↓u_v8, ↓u_s8, ↓u_v9, ↓u_s9, ↓u_v10, ↓u_s10, ↓u_v11, ↓u_s11, ↓u_v12, ↓u_s12, ↓u_v13, ↓u_s13, ↓u_v14, ↓u_s14, ↓u_v15, ↓u_s15, ↓u_v16, ↓u_s16, ↓u_v17, ↓u_s17, ↓u_v18, ↓u_s18, ↓u_v19, ↓u_s19, if_true, if_false, Bool.false_eq_true, Bool.not_true, Bool.not_false, Bool.true_and, Bool.false_and, Bool.and_true, Bool.and_false, Bool.or_true, Bool.or_false, Bool.true_or, Bool.false_or, true_and, and_true, Option.isSome_some, List.length_cons, List.length_nil, ofS_beq, String.reduceBEq]
        exact h
      have j5' := kp j4 a3 a4
      show oAdd _ _ _ _
      rw [add_tt (by simp; omega)]
      refine draw_of (jd j5') (by omega) (by omega) fun i S6' i0 i1 d6 k6 => ?_
      have j6 := kp j5' d6 k6
      obtain ⟨k, rfl⟩ : ∃ k : Nat, i = ((k : Nat) : Int) := ⟨i.toNat, by omega⟩
      have hkb : k < bs.length := by omega
      obtain ⟨rows, en, hx, hrl, hr, hen⟩ := hbs bs[k] (List.getElem_mem hkb)
      have hix : ∀ (S' : Sto) (R' : Post), oIx (.tup bs) (.int ((k : Nat) : Int)) S' R' = R' (.tup [.tup rows, .tup en]) S' := fun S' R' => propext (oIx_t (at_nat (by rw [List.getElem?_eq_getElem hkb, hx])))
      refine ⟨by omega, ?_⟩
      refine ⟨a, b, e, _, endsL, w, ks, acc, rfl, jd j6, je j6, fs_ends, by omega, by omega, hk, a1, a2, ks_ends hk, fun d2 xs S7 m1 m2 m3 m4 m5 m6 => ?_⟩
      have j7 := kp j6 m5 m6
      refine sh_of m5 (by simp [asL, m2]) m3 fun d3 ys3 S8 n1 n2 n3 n4 n5 n6 => ?_
      have j8 := kp j7 n5 n6
      rw [slC n2]
      have hc7 : (cutT ys3 none (some 9)).length ≤ 9 := cut_len4 ys3 9
      show oAdd _ _ _ _
      rw [add_ll (by simp; omega)]
      refine ⟨_, rfl, ?_⟩
      have hacc : GT S8 (.tup ([T.str w] ++ acc)) ∧ plT (.tup ([T.str w] ++ acc)) = true := by
        have hwl : w.length ≤ 100 := fs_ends.2.2.2.2 _ (look_mem hk)
        refine gt_all (Rw.app (rw_ga fun y hy => ?_) (rw_ga a2)) (by simp; omega)
        rw [List.mem_singleton.mp hy]; exact ga_str (by omega)
      refine loop_rest (fun rest3 ρ S1 => ∃ x13 x14 x15 x16 x17 : Option T, ρ = [some (T.arg ns), some (T.ref a), some (T.tup [T.int c, T.tup bs]), some (T.ref f), some (T.ref e), some (T.ref p), some (T.int ((bs.length : Nat) : Int)), some t, some (.str w), some (.tup ([T.str w] ++ acc)), some (.int ((k : Nat) : Int)), x11, x12, x13, x14, x15, x16, x17] ∧ Rw S1 rest3 ∧ Jl a b f e p (1000 + 100 * rest.length + rest3.length) S1) ⟨_, _, _, _, _, rfl, Rw.app (fun y hy => by rw [List.mem_singleton.mp hy]; exact hacc) (fun y hy => (Rw.em m4 (Kp.em m5 n6)) y (n4 y (cut_mem hy))), j8.less (by rw [List.length_append, List.length_singleton]; omega)⟩ ?_ ?_
      · rintro y rest3 ρ S9 ⟨x13, x14, x15, x16, x17, rfl, o1, j9⟩
        rw [List.length_cons] at j9
        refine ⟨_, rfl, fun nx3 hnx3 => ?_⟩
        rw [show List.set [some (T.arg ns), some (T.ref a), some (T.tup [T.int c, T.tup bs]), some (T.ref f), some (T.ref e), some (T.ref p), some (T.int ((bs.length : Nat) : Int)), some t, some (.str w), some (.tup ([T.str w] ++ acc)), some (.int ((k : Nat) : Int)), x11, x12, x13, x14, x15, x16, x17] 13 (some y) = [some (T.arg ns), some (T.ref a), some (T.tup [T.int c, T.tup bs]), some (T.ref f), some (T.ref e), some (T.ref p), some (T.int ((bs.length : Nat) : Int)), some t, some (.str w), some (.tup ([T.str w] ++ acc)), some (.int ((k : Nat) : Int)), x11, x12, some y, x14, x15, x16, x17] from rfl]
        simp only [↓u_sRet, ↓u_sRetN, ↓u_sNext, ↓u_sBrk, ↓u_sCont, ↓u_sSeq, ↓u_sDrop, ↓u_sIf, ↓u_wNil, ↓u_wCons, ↓u_wTup, ↓u_wLst, ↓u_wTst, ↓u_wTru, ↓u_wAnd, ↓u_wOr, ↓u_wNot, ↓u_wAndV, ↓u_wOrV, ↓u_wNotV, ↓u_wIfE, ↓u_wC, ↓u_wOp, ↓u_wUn, ↓u_wCall, ↓u_wChain, ↓u_wIsi, ↓u_wPart, ↓u_wNoPart, ↓u_wSl, ↓u_slT, ↓u_slL, ↓u_wMeth, ↓u_wKGet, ↓u_wInK, ↓u_sAsg, ↓u_exbl, ↓u_exint, ↓u_exstr, ↓u_exref, ↓u_exsome, ↓u_trubl, ↓u_truint, ↓u_trunon, ↓u_trulst, ↓u_trutup, ↓oEq_ss, ↓oEq_ii, ↓oEq_bb, ↓oEq_ni, ↓oNe_ss, ↓oNe_ii, ↓oNe_bb, ↓oEq_l0, ↓oNe_l0, ↓oEq_t0, ↓oNe_t0, ↓oLt_ii, ↓oLe_ii, ↓oGt_ii, ↓oGe_ii, ↓oSub_ii, ↓oAdd_ii, ↓u_lenT, ↓u_lenL, ↓u_isnon, ↓u_ixtup0, ↓u_ixlst0, ↓u_ixtup1, ↓u_ixlst1, ↓u_ixtup2, ↓u_ixlst2, ↓u_ixtup3, ↓u_ixlst3, ↓u_ixtup4, ↓u_ixlst4, ↓u_ixtup5, ↓u_ixlst5, ↓u_v0, ↓u_s0, ↓u_v1, ↓u_s1, ↓u_v2, ↓u_s2, ↓u_v3, ↓u_s3, ↓u_v4, ↓u_s4, ↓u_v5, ↓u_s5, ↓u_v6, ↓u_s6, ↓u_v7, ↓u_s7, ↓u_v8, ↓u_s8, ↓u_v9, ↓u_s9, ↓u_v10, ↓u_s10, ↓u_v11, ↓u_s11, ↓u_v12, ↓u_s12, ↓u_v13, ↓u_s13, ↓u_v14, ↓u_s14, ↓u_v15, ↓u_s15, ↓u_v16, ↓u_s16, ↓u_v17, ↓u_s17, ↓u_v18, ↓u_s18, ↓u_v19, ↓u_s19, if_true, if_false, Bool.false_eq_true, Bool.not_true, Bool.not_false, Bool.true_and, Bool.false_and, Bool.and_true, Bool.and_false, Bool.or_true, Bool.or_false, Bool.true_or, Bool.false_or, true_and, and_true, Option.isSome_some, List.length_cons, List.length_nil, ofS_beq, String.reduceBEq, Jl.ty j9, ↓hix]
        refine ⟨by omega, put_of (by omega) (by omega) (by omega) ?_⟩
        have hy := o1 y (by simp)
        refine Jl.app (n := 1000 + 100 * rest.length + rest3.length) (j9.less (by omega)) hfp hep np ?_ fun S10 j10 m10 => ?_
        · rw [Int.toNat_natCast]
          exact gt_put hbs hbl (gt_all (rw_two ⟨(ga_tup (by omega) hr).2 _, rfl⟩ hy) (by simp))
        · exact hnx3 _ _ ⟨_, _, _, _, _, rfl, fun z hz => (o1.em m10) z (by simp [hz]), j10⟩
      · rintro ρ S9 ⟨x13, x14, x15, x16, x17, rfl, o1, j9⟩
        exact hnx _ _ ⟨_, _, _, _, _, _, _, _, _, _, _, rfl, j9.less (by simp)⟩
  · rintro ρ S1 ⟨x7, x8, x9, x10, x11, x12, x13, x14, x15, x16, x17, rfl, j1⟩
    have fin : ∀ (p2 : Addr) (L : List T) (S' : Sto), S' p2 = some (.lst L) → Rg S' L → L.length ≤ 20000 →
        (sSeq (sFor (wEnum (wFrz (wVar 5))) (.tp (.cons (.nm 10) (.cons (.nm 15) .nil)))
          (sSeq (sSet 16 (wIfE (wTst (wOp oEq (wOp oMod (wCall oInt1 (wCons (wVar 10) wNil)) (wC (.int 2))) (wC (.int 0)))) (wCall sp_is_graph (wCons (wVar 15) wNil)) (wCallKw [0] 1 sp_is_graph (wCons (wVar 15) wNil))))
          (sIf (wOr (wAnd (wTst (wOp oIsNot (wVar 16) (wC (.bl true)))) (wTst (wOp oIsNot (wVar 16) (wC (.bl false))))) (wTst (wOp oNe (wVar 16) (wCall sp_law_is_graph (wCons (wVar 15) wNil)))))
            (sRet (wC (.bl false)))
            sNext)))
          (sRet (wC (.bl true)))) { nx := fun _ S' => R .non S', rt := R } [some (T.arg ns), some (T.ref a), some (T.tup [T.int c, T.tup bs]), some (T.ref f), some (T.ref e), some (T.ref p2), some (T.int ((bs.length : Nat) : Int)), x7, x8, x9, x10, x11, x12, x13, x14, x15, x16, x17] S' := by
      intro p2 L S' h1 h2 h3
      rw [u_sSeq]
      unfold sFor wEnum
      refine u_frz (p := p2) (fun R' q' => by simp only [↓u_v5]; exact q') h1 ⟨L, rfl, ?_⟩
      have hm : Em S' (fun b => if b = p2 then none else S' b) := fun z hz => by
        have : z ≠ p2 := fun x => by rw [x, h1] at hz; cases hz
        simp only [this, if_false]
        exact hz
      have h4 := h2.em hm
      generalize (fun b => if b = p2 then none else S' b) = S2 at *
      refine loop_rest (fun rest ρ S1 => S1 = S2 ∧ ∃ x10 x15 x16 : Option T, ρ = [some (T.arg ns), some (T.ref a), some (T.tup [T.int c, T.tup bs]), some (T.ref f), some (T.ref e), some (T.ref p2), some (T.int ((bs.length : Nat) : Int)), x7, x8, x9, x10, x11, x12, x13, x14, x15, x16, x17] ∧ ∀ t ∈ rest, t ∈ enumT 0 L) ⟨rfl, _, _, _, rfl, fun t h => h⟩ ?_ ?_
      · rintro t rest ρ S3 ⟨rfl, x10, x15, x16, rfl, o1⟩
        obtain ⟨i, x, hi, rfl⟩ := enum_mem (o1 t (by simp))
        have gx := h4 x (List.mem_of_getElem? hi)
        refine ⟨_, rfl, fun nx hnx => ?_⟩
        have goal := hnx [some (T.arg ns), some (T.ref a), some (T.tup [T.int c, T.tup bs]), some (T.ref f), some (T.ref e), some (T.ref p2), some (T.int ((bs.length : Nat) : Int)), x7, x8, x9, some (.int ((0 + i : Nat) : Int)), x11, x12, x13, x14, some x, some (.bl (graphT x)), x17] S3 ⟨rfl, _, _, _, rfl, fun t h => o1 t (by simp [h])⟩
        show sSeq _ _ _ [some (T.arg ns), some (T.ref a), some (T.tup [T.int c, T.tup bs]), some (T.ref f), some (T.ref e), some (T.ref p2), some (T.int ((bs.length : Nat) : Int)), x7, x8, x9, some (.int ((0 + i : Nat) : Int)), x11, x12, x13, x14, some x, x16, x17] S3
        have pm : permG [0] [x] = [x] := rfl
        have tl : ∀ b : Bool, nx [some (T.arg ns), some (T.ref a), some (T.tup [T.int c, T.tup bs]), some (T.ref f), some (T.ref e), some (T.ref p2), some (T.int ((bs.length : Nat) : Int)), x7, x8, x9, some (.int ((0 + i : Nat) : Int)), x11, x12, x13, x14, some x, some (.bl b), x17] S3 → graphT x = b → True := fun _ _ _ => trivial
        simp only [↓u_sRet, ↓u_sRetN, ↓u_sNext, ↓u_sBrk, ↓u_sCont, ↓u_sSeq, ↓u_sDrop, ↓u_sIf, ↓u_wNil, ↓u_wCons, ↓u_wTup, ↓u_wLst, ↓u_wTst, ↓u_wTru, ↓u_wAnd, ↓u_wOr, ↓u_wNot, ↓u_wAndV, ↓u_wOrV, ↓u_wNotV, ↓u_wIfE, ↓u_wC, ↓u_wOp, ↓u_wUn, ↓u_wCall, ↓u_wChain, ↓u_wIsi, ↓u_wPart, ↓u_wNoPart, ↓u_wSl, ↓u_slT, ↓u_slL, ↓u_wMeth, ↓u_wKGet, ↓u_wInK, ↓u_sAsg, ↓u_exbl, ↓u_exint, ↓u_exstr, ↓u_exref, ↓u_exsome, ↓u_trubl, ↓u_truint, ↓u_trunon, ↓u_trulst, ↓u_trutup, ↓oEq_ss, ↓oEq_ii, ↓oEq_bb, ↓oEq_ni, ↓oNe_ss, ↓oNe_ii, ↓oNe_bb, ↓oEq_l0, ↓oNe_l0, ↓oEq_t0, ↓oNe_t0, ↓oLt_ii, ↓oLe_ii, ↓oGt_ii, ↓oGe_ii, ↓oSub_ii, ↓oAdd_ii, ↓u_lenT, ↓u_lenL, ↓u_isnon, ↓u_ixtup0, ↓u_ixlst0, ↓u_ixtup1, ↓u_ixlst1, ↓u_ixtup2, ↓u_ixlst2, ↓u_ixtup3, ↓u_ixlst3, ↓u_ixtup4, ↓u_ixlst4, ↓u_ixtup5, ↓u_ixlst5, ↓u_v0, ↓u_s0, ↓u_v1, ↓u_s1, ↓u_v2, ↓u_s2, ↓u_v3, ↓u_s3, ↓u_v4, ↓u_s4, ↓u_v5, ↓u_s5, ↓u_v6, ↓u_s6, ↓u_v7, ↓u_s7, ↓u_v8, ↓u_s8, ↓u_v9, ↓u_s9, ↓u_v10, ↓u_s10, ↓u_v11, ↓u_s11, ↓u_v12, ↓u_s12, ↓u_v13, ↓u_s13, ↓u_v14, ↓u_s14, ↓u_v15, ↓u_s15, ↓u_v16, ↓u_s16, ↓u_v17, ↓u_s17, ↓u_v18, ↓u_s18, ↓u_v19, ↓u_s19, if_true, if_false, Bool.false_eq_true, Bool.not_true, Bool.not_false, Bool.true_and, Bool.false_and, Bool.and_true, Bool.and_false, Bool.or_true, Bool.or_false, Bool.true_or, Bool.false_or, true_and, and_true, Option.isSome_some, List.length_cons, List.length_nil, ofS_beq, String.reduceBEq, ↓int_1, ↓mod_ii (show (0 : Int) < 2 by decide)]
        cases hgx : graphT x <;> rw [hgx] at goal <;> split <;> (try unfold wCallKw) <;> simp only [↓u_sRet, ↓u_sRetN, ↓u_sNext, ↓u_sBrk, ↓u_sCont, ↓u_sSeq, ↓u_sDrop, ↓u_sIf, ↓u_wNil, ↓u_wCons, ↓u_wTup, ↓u_wLst, ↓u_wTst, ↓u_wTru, ↓u_wAnd, ↓u_wOr, ↓u_wNot, ↓u_wAndV, ↓u_wOrV, ↓u_wNotV, ↓u_wIfE, ↓u_wC, ↓u_wOp, ↓u_wUn, ↓u_wCall, ↓u_wChain, ↓u_wIsi, ↓u_wPart, ↓u_wNoPart, ↓u_wSl, ↓u_slT, ↓u_slL, ↓u_wMeth, ↓u_wKGet, ↓u_wInK, ↓u_sAsg, ↓u_exbl, ↓u_exint, ↓u_exstr, ↓u_exref, ↓u_exsome, ↓u_trubl, ↓u_truint, ↓u_trunon, ↓u_trulst, ↓u_trutup, ↓oEq_ss, ↓oEq_ii, ↓oEq_bb, ↓oEq_ni, ↓oNe_ss, ↓oNe_ii, ↓oNe_bb, ↓oEq_l0, ↓oNe_l0, ↓oEq_t0, ↓oNe_t0, ↓oLt_ii, ↓oLe_ii, ↓oGt_ii, ↓oGe_ii, ↓oSub_ii, ↓oAdd_ii, ↓u_lenT, ↓u_lenL, ↓u_isnon, ↓u_ixtup0, ↓u_ixlst0, ↓u_ixtup1, ↓u_ixlst1, ↓u_ixtup2, ↓u_ixlst2, ↓u_ixtup3, ↓u_ixlst3, ↓u_ixtup4, ↓u_ixlst4, ↓u_ixtup5, ↓u_ixlst5, ↓u_v0, ↓u_s0, ↓u_v1, ↓u_s1, ↓u_v2, ↓u_s2, ↓u_v3, ↓u_s3, ↓u_v4, ↓u_s4, ↓u_v5, ↓u_s5, ↓u_v6, ↓u_s6, ↓u_v7, ↓u_s7, ↓u_v8, ↓u_s8, ↓u_v9, ↓u_s9, ↓u_v10, ↓u_s10, ↓u_v11, ↓u_s11, ↓u_v12, ↓u_s12, ↓u_v13, ↓u_s13, ↓u_v14, ↓u_s14, ↓u_v15, ↓u_s15, ↓u_v16, ↓u_s16, ↓u_v17, ↓u_s17, ↓u_v18, ↓u_s18, ↓u_v19, ↓u_s19, if_true, if_false, Bool.false_eq_true, Bool.not_true, Bool.not_false, Bool.true_and, Bool.false_and, Bool.and_true, Bool.and_false, Bool.or_true, Bool.or_false, Bool.true_or, Bool.false_or, true_and, and_true, Option.isSome_some, List.length_cons, List.length_nil, ofS_beq, String.reduceBEq, sp_is_graph, sp_law_is_graph, iff_b1, gx, hgx, isnot_bl, pm] <;> simpa using goal
      · rintro ρ S3 ⟨rfl, x10, x15, x16, rfl, o1⟩
        simp only [↓u_sRet, ↓u_sRetN, ↓u_sNext, ↓u_sBrk, ↓u_sCont, ↓u_sSeq, ↓u_sDrop, ↓u_sIf, ↓u_wNil, ↓u_wCons, ↓u_wTup, ↓u_wLst, ↓u_wTst, ↓u_wTru, ↓u_wAnd, ↓u_wOr, ↓u_wNot, ↓u_wAndV, ↓u_wOrV, ↓u_wNotV, ↓u_wIfE, ↓u_wC, ↓u_wOp, ↓u_wUn, ↓u_wCall, ↓u_wChain, ↓u_wIsi, ↓u_wPart, ↓u_wNoPart, ↓u_wSl, ↓u_slT, ↓u_slL, ↓u_wMeth, ↓u_wKGet, ↓u_wInK, ↓u_sAsg, ↓u_exbl, ↓u_exint, ↓u_exstr, ↓u_exref, ↓u_exsome, ↓u_trubl, ↓u_truint, ↓u_trunon, ↓u_trulst, ↓u_trutup, ↓oEq_ss, ↓oEq_ii, ↓oEq_bb, ↓oEq_ni, ↓oNe_ss, ↓oNe_ii, ↓oNe_bb, ↓oEq_l0, ↓oNe_l0, ↓oEq_t0, ↓oNe_t0, ↓oLt_ii, ↓oLe_ii, ↓oGt_ii, ↓oGe_ii, ↓oSub_ii, ↓oAdd_ii, ↓u_lenT, ↓u_lenL, ↓u_isnon, ↓u_ixtup0, ↓u_ixlst0, ↓u_ixtup1, ↓u_ixlst1, ↓u_ixtup2, ↓u_ixlst2, ↓u_ixtup3, ↓u_ixlst3, ↓u_ixtup4, ↓u_ixlst4, ↓u_ixtup5, ↓u_ixlst5, ↓u_v0, ↓u_s0, ↓u_v1, ↓u_s1, ↓u_v2, ↓u_s2, ↓u_v3, ↓u_s3, ↓u_v4, ↓u_s4, ↓u_v5, ↓u_s5, ↓u_v6, ↓u_s6, ↓u_v7, ↓u_s7, ↓u_v8, ↓u_s8, ↓u_v9, ↓u_s9, ↓u_v10, ↓u_s10, ↓u_v11, ↓u_s11, ↓u_v12, ↓u_s12, ↓u_v13, ↓u_s13, ↓u_v14, ↓u_s14, ↓u_v15, ↓u_s15, ↓u_v16, ↓u_s16, ↓u_v17, ↓u_s17, ↓u_v18, ↓u_s18, ↓u_v19, ↓u_s19, if_true, if_false, Bool.false_eq_true, Bool.not_true, Bool.not_false, Bool.true_and, Bool.false_and, Bool.and_true, Bool.and_false, Bool.or_true, Bool.or_false, Bool.true_or, Bool.false_or, true_and, and_true, Option.isSome_some, List.length_cons, List.length_nil, ofS_beq, String.reduceBEq]
        exact q _
    simp only [↓u_sRet, ↓u_sRetN, ↓u_sNext, ↓u_sBrk, ↓u_sCont, ↓u_sSeq, ↓u_sDrop, ↓u_sIf, ↓u_wNil, ↓u_wCons, ↓u_wTup, ↓u_wLst, ↓u_wTst, ↓u_wTru, ↓u_wAnd, ↓u_wOr, ↓u_wNot, ↓u_wAndV, ↓u_wOrV, ↓u_wNotV, ↓u_wIfE, ↓u_wC, ↓u_wOp, ↓u_wUn, ↓u_wCall, ↓u_wChain, ↓u_wIsi, ↓u_wPart, ↓u_wNoPart, ↓u_wSl, ↓u_slT, ↓u_slL, ↓u_wMeth, ↓u_wKGet, ↓u_wInK, ↓u_sAsg, ↓u_exbl, ↓u_exint, ↓u_exstr, ↓u_exref, ↓u_exsome, ↓u_trubl, ↓u_truint, ↓u_trunon, ↓u_trulst, ↓u_trutup, ↓oEq_ss, ↓oEq_ii, ↓oEq_bb, ↓oEq_ni, ↓oNe_ss, ↓oNe_ii, ↓oNe_bb, ↓oEq_l0, ↓oNe_l0, ↓oEq_t0, ↓oNe_t0, ↓oLt_ii, ↓oLe_ii, ↓oGt_ii, ↓oGe_ii, ↓oSub_ii, ↓oAdd_ii, ↓u_lenT, ↓u_lenL, ↓u_isnon, ↓u_ixtup0, ↓u_ixlst0, ↓u_ixtup1, ↓u_ixlst1, ↓u_ixtup2, ↓u_ixlst2, ↓u_ixtup3, ↓u_ixlst3, ↓u_ixtup4, ↓u_ixlst4, ↓u_ixtup5, ↓u_ixlst5, ↓u_v0, ↓u_s0, ↓u_v1, ↓u_s1, ↓u_v2, ↓u_s2, ↓u_v3, ↓u_s3, ↓u_v4, ↓u_s4, ↓u_v5, ↓u_s5, ↓u_v6, ↓u_s6, ↓u_v7, ↓u_s7, ↓u_v8, ↓u_s8, ↓u_v9, ↓u_s9, ↓u_v10, ↓u_s10, ↓u_v11, ↓u_s11, ↓u_v12, ↓u_s12, ↓u_v13, ↓u_s13, ↓u_v14, ↓u_s14, ↓u_v15, ↓u_s15, ↓u_v16, ↓u_s16, ↓u_v17, ↓u_s17, ↓u_v18, ↓u_s18, ↓u_v19, ↓u_s19, if_true, if_false, Bool.false_eq_true, Bool.not_true, Bool.not_false, Bool.true_and, Bool.false_and, Bool.and_true, Bool.and_false, Bool.or_true, Bool.or_false, Bool.true_or, Bool.false_or, true_and, and_true, Option.isSome_some, List.length_cons, List.length_nil, ofS_beq, String.reduceBEq]
    refine ⟨a, b, _, rfl, hg, jd j1, fun xs S2 h1 h2 d2 k2 => ?_⟩
    have j2 := kp j1 d2 k2
    obtain ⟨L, l1, l2, l3, l4, l5, l6⟩ := j2
    refine addC_of (xs := L) (ys := xs) (by simp [asL, l1]) rfl (by omega) fun p2 hp2 => ?_
    have np2 := l6.na hp2
    have g3 : Rg (supd S2 p2 (.lst (L ++ xs))) (L ++ xs) := (Rg.app l2 h2).em (em_new hp2)
    have d3 : Dk a b (supd S2 p2 (.lst (L ++ xs))) := l6.upd np2.1 np2.2
    have e3 : supd S2 p2 (.lst (L ++ xs)) p2 = some (.lst (L ++ xs)) := supd_same
    have hl : (L ++ xs).length ≤ 15000 := by rw [List.length_append]; omega
    generalize supd S2 p2 (.lst (L ++ xs)) = S3' at *
    generalize L ++ xs = L2 at *
    refine draw_of d3 (by decide) (by decide) fun i S4' i0 i1 d4 k4 => ?_
    have e4 := k4 _ _ np2.1 np2.2 e3
    have g4 := g3.em (Kp.em d3 k4)
    show oEq _ _ _ _
    rw [oEq_ii]
    refine ⟨_, rfl, ?_⟩
    split
    · refine ⟨ty_ref e4, a, b, rfl, d4, fun t S5' gt d5 k5 => ?_⟩
      have e5 := k5 _ _ np2.1 np2.2 e4
      have g5 := g4.em (Kp.em d4 k5)
      show oAppend _ _ _ _
      rw [app_eq (l := L2) e5 (by omega)]
      exact fin p2 (L2 ++ [t]) _ supd_same ((g5.snoc (gt _)).em (em_upd e5)) (by rw [List.length_append, List.length_singleton]; omega)
    · exact fin p2 L2 _ e4 g4 (by omega)
end TL.K

set_option Elab.async false
set_option linter.all false
set_option maxRecDepth 100000
set_option maxHeartbeats 8000000
namespace TL.K
open PySem L2 PyProof.Rows
section
variable {P : Program} {W : World} {K : PySem.W.Frag} {mg : Str → Option Value} {base : Heap}
theorem fk_size_of {fa : Addr} {fd : FuncData} (Fn : Fun K "size_of" "size_of" s_size_of fa fd) (Tx : Txt K W mg) : FnOk P W K mg base CX0 1 fa fd ["graph"] (spT K sp_size_of) :=
  fn_ok (k := 0) Fn sc_size_of (by rintro ts S R ⟨_, _, rfl, _⟩; rfl) (fun cdv A outer s H E hr => bd_size_of Tx  cdv A outer s H E hr) ok_size_of
theorem fk_is_integer {fa : Addr} {fd : FuncData} (Fn : Fun K "is_integer" "is_integer" s_is_integer fa fd) (Tx : Txt K W mg) : FnOk P W K mg base CX0 1 fa fd ["thing"] (spT K sp_is_integer) :=
  fn_ok (k := 0) Fn sc_is_integer (by rintro ts S R ⟨t, rfl, _⟩; rfl) (fun cdv A outer s H E hr => bd_is_integer Tx  cdv A outer s H E hr) ok_is_integer
theorem fk_is_word {fa : Addr} {fd : FuncData} (Fn : Fun K "is_word" "is_word" s_is_word fa fd) (Tx : Txt K W mg) (D_is_integer : Def P W K mg base "is_integer" ["thing"] 1 sp_is_integer) : FnOk P W K mg base CX0 2 fa fd ["thing"] (spT K sp_is_word) :=
  fn_ok (k := 1) Fn sc_is_word (by rintro ts S R ⟨t, rfl, _⟩; rfl) (fun cdv A outer s H E hr => bd_is_word Tx D_is_integer cdv A outer s H E hr) ok_is_word
theorem fk_is_name {fa : Addr} {fd : FuncData} (Fn : Fun K "is_name" "is_name" s_is_name fa fd) (Tx : Txt K W mg) : FnOk P W K mg base CX0 1 fa fd ["thing"] (spT K sp_is_name) :=
  fn_ok (k := 0) Fn sc_is_name (by rintro ts S R ⟨_, rfl, _⟩; rfl) (fun cdv A outer s H E hr => bd_is_name Tx  cdv A outer s H E hr) ok_is_name
theorem fk_is_full_name {fa : Addr} {fd : FuncData} (Fn : Fun K "is_full_name" "is_full_name" s_is_full_name fa fd) (Tx : Txt K W mg) (D_is_name : Def P W K mg base "is_name" ["thing"] 1 sp_is_name) : FnOk P W K mg base CX0 2 fa fd ["thing"] (spT K sp_is_full_name) :=
  fn_ok (k := 1) Fn sc_is_full_name (by rintro ts S R ⟨t, rfl, _⟩; rfl) (fun cdv A outer s H E hr => bd_is_full_name Tx D_is_name cdv A outer s H E hr) ok_is_full_name
theorem fk_is_function_value {fa : Addr} {fd : FuncData} (Fn : Fun K "is_function_value" "is_function_value" s_is_function_value fa fd) (Tx : Txt K W mg) (D_is_full_name : Def P W K mg base "is_full_name" ["thing"] 2 sp_is_full_name) : FnOk P W K mg base CX0 3 fa fd ["thing"] (spT K sp_is_function_value) :=
  fn_ok (k := 2) Fn sc_is_function_value (by rintro ts S R ⟨t, rfl, _⟩; rfl) (fun cdv A outer s H E hr => bd_is_function_value Tx D_is_full_name cdv A outer s H E hr) ok_is_function_value
theorem fk_is_value {fa : Addr} {fd : FuncData} (Fn : Fun K "is_value" "is_value" s_is_value fa fd) (Tx : Txt K W mg) (D_is_function_value : Def P W K mg base "is_function_value" ["thing"] 3 sp_is_function_value) (D_is_word : Def P W K mg base "is_word" ["thing"] 2 sp_is_word) : FnOk P W K mg base CX0 4 fa fd ["thing"] (spT K sp_is_value) :=
  fn_ok (k := 3) Fn sc_is_value (by rintro ts S R ⟨t, rfl, _⟩; rfl) (fun cdv A outer s H E hr => bd_is_value Tx D_is_function_value D_is_word cdv A outer s H E hr) ok_is_value
theorem fk_is_variable {fa : Addr} {fd : FuncData} (Fn : Fun K "is_variable" "is_variable" s_is_variable fa fd) (Tx : Txt K W mg) (D_is_integer : Def P W K mg base "is_integer" ["thing"] 1 sp_is_integer) : FnOk P W K mg base CX0 2 fa fd ["thing"] (spT K sp_is_variable) :=
  fn_ok (k := 1) Fn sc_is_variable (by rintro ts S R ⟨t, rfl, _⟩; rfl) (fun cdv A outer s H E hr => bd_is_variable Tx D_is_integer cdv A outer s H E hr) ok_is_variable
theorem fk_is_operand {fa : Addr} {fd : FuncData} (Fn : Fun K "is_operand" "is_operand" s_is_operand fa fd) (Tx : Txt K W mg) (D_is_variable : Def P W K mg base "is_variable" ["thing"] 2 sp_is_variable) (D_is_word : Def P W K mg base "is_word" ["thing"] 2 sp_is_word) : FnOk P W K mg base CX0 3 fa fd ["thing"] (spT K sp_is_operand) :=
  fn_ok (k := 2) Fn sc_is_operand (by rintro ts S R ⟨t, rfl, _⟩; rfl) (fun cdv A outer s H E hr => bd_is_operand Tx D_is_variable D_is_word cdv A outer s H E hr) ok_is_operand
theorem fk_are_operands {fa : Addr} {fd : FuncData} (Fn : Fun K "are_operands" "are_operands" s_are_operands fa fd) (Tx : Txt K W mg) (D_is_operand : Def P W K mg base "is_operand" ["thing"] 3 sp_is_operand) : FnOk P W K mg base CX0 4 fa fd ["thing"] (spT K sp_are_operands) :=
  fn_ok (k := 3) Fn sc_are_operands (by rintro ts S R ⟨_, rfl, _⟩; rfl) (fun cdv A outer s H E hr => bd_are_operands Tx D_is_operand cdv A outer s H E hr) ok_are_operands
theorem fk_has_word {fa : Addr} {fd : FuncData} (Fn : Fun K "has_word" "has_word" s_has_word fa fd) (Tx : Txt K W mg) : FnOk P W K mg base CX0 1 fa fd ["thing", "is_end"] (spT K sp_has_word) :=
  fn_ok (k := 0) Fn sc_has_word (by rintro ts S R ⟨_, _, rfl, _⟩; rfl) (fun cdv A outer s H E hr => bd_has_word Tx  cdv A outer s H E hr) ok_has_word
theorem fk_is_instruction {fa : Addr} {fd : FuncData} (Fn : Fun K "is_instruction" "is_instruction" s_is_instruction fa fd) (Tx : Txt K W mg) (D_are_operands : Def P W K mg base "are_operands" ["thing"] 4 sp_are_operands) (D_has_word : Def P W K mg base "has_word" ["thing", "is_end"] 1 sp_has_word) (D_is_full_name : Def P W K mg base "is_full_name" ["thing"] 2 sp_is_full_name) (D_is_operand : Def P W K mg base "is_operand" ["thing"] 3 sp_is_operand) (D_is_value : Def P W K mg base "is_value" ["thing"] 4 sp_is_value) (D_is_variable : Def P W K mg base "is_variable" ["thing"] 2 sp_is_variable) : FnOk P W K mg base CX0 5 fa fd ["thing"] (spT K sp_is_instruction) :=
  fn_ok (k := 4) Fn sc_is_instruction (by rintro ts S R ⟨t, rfl, _⟩; rfl) (fun cdv A outer s H E hr => bd_is_instruction Tx D_are_operands D_has_word D_is_full_name D_is_operand D_is_value D_is_variable cdv A outer s H E hr) ok_is_instruction
theorem fk_is_block_number {fa : Addr} {fd : FuncData} (Fn : Fun K "is_block_number" "is_block_number" s_is_block_number fa fd) (Tx : Txt K W mg) (D_is_integer : Def P W K mg base "is_integer" ["thing"] 1 sp_is_integer) : FnOk P W K mg base CX0 2 fa fd ["thing", "count"] (spT K sp_is_block_number) :=
  fn_ok (k := 1) Fn sc_is_block_number (by rintro ts S R ⟨_, _, rfl, _⟩; rfl) (fun cdv A outer s H E hr => bd_is_block_number Tx D_is_integer cdv A outer s H E hr) ok_is_block_number
theorem fk_is_terminator {fa : Addr} {fd : FuncData} (Fn : Fun K "is_terminator" "is_terminator" s_is_terminator fa fd) (Tx : Txt K W mg) (D_has_word : Def P W K mg base "has_word" ["thing", "is_end"] 1 sp_has_word) (D_is_block_number : Def P W K mg base "is_block_number" ["thing", "count"] 2 sp_is_block_number) (D_is_operand : Def P W K mg base "is_operand" ["thing"] 3 sp_is_operand) (D_is_word : Def P W K mg base "is_word" ["thing"] 2 sp_is_word) : FnOk P W K mg base CX0 4 fa fd ["thing", "count"] (spT K sp_is_terminator) :=
  fn_ok (k := 3) Fn sc_is_terminator (by rintro ts S R ⟨_, _, rfl, _⟩; rfl) (fun cdv A outer s H E hr => bd_is_terminator Tx D_has_word D_is_block_number D_is_operand D_is_word cdv A outer s H E hr) ok_is_terminator
theorem fk_is_block {fa : Addr} {fd : FuncData} (Fn : Fun K "is_block" "is_block" s_is_block fa fd) (Tx : Txt K W mg) (D_is_instruction : Def P W K mg base "is_instruction" ["thing"] 5 sp_is_instruction) (D_is_terminator : Def P W K mg base "is_terminator" ["thing", "count"] 4 sp_is_terminator) : FnOk P W K mg base CX0 6 fa fd ["thing", "count"] (spT K sp_is_block) :=
  fn_ok (k := 5) Fn sc_is_block (by rintro ts S R ⟨_, _, rfl, _⟩; rfl) (fun cdv A outer s H E hr => bd_is_block Tx D_is_instruction D_is_terminator cdv A outer s H E hr) ok_is_block
theorem fk_is_graph_value {fa : Addr} {fd : FuncData} (Fn : Fun K "is_graph_value" "is_graph_value" s_is_graph_value fa fd) (Tx : Txt K W mg) (D_is_block : Def P W K mg base "is_block" ["thing", "count"] 6 sp_is_block) (D_is_integer : Def P W K mg base "is_integer" ["thing"] 1 sp_is_integer) (D_size_of : Def P W K mg base "size_of" ["graph"] 1 sp_size_of) : FnOk P W K mg base CX0 7 fa fd ["thing"] (spT K sp_is_graph_value) :=
  fn_ok (k := 6) Fn sc_is_graph_value (by rintro ts S R ⟨t, rfl, _⟩; rfl) (fun cdv A outer s H E hr => bd_is_graph_value Tx D_is_block D_is_integer D_size_of cdv A outer s H E hr) ok_is_graph_value
theorem fk_is_graph {fa : Addr} {fd : FuncData} (Fn : Fun K "is_graph" "is_graph" s_is_graph fa fd) (Tx : Txt K W mg) (D_is_graph_value : Def P W K mg base "is_graph_value" ["thing"] 7 sp_is_graph_value) : FnOk P W K mg base CX0 8 fa fd ["thing"] (spT K sp_is_graph) :=
  fn_ok (k := 7) Fn sc_is_graph (by rintro ts S R ⟨t, rfl, _⟩; rfl) (fun cdv A outer s H E hr => bd_is_graph Tx D_is_graph_value cdv A outer s H E hr) ok_is_graph
theorem fk_law_deck {fa : Addr} {fd : FuncData} (Fn : Fun K "_law_deck" "_law_deck" s_law_deck fa fd) (Tx : Txt K W mg) : FnOk P W K mg base CX0 1 fa fd ["script"] (spT K sp_law_deck) :=
  fn_ok (k := 0) Fn sc_law_deck (by rintro ts S R ⟨_, rfl, _⟩; rfl) (fun cdv A outer s H E hr => bd_law_deck Tx  cdv A outer s H E hr) ok_law_deck
theorem fk_law_draw {fa : Addr} {fd : FuncData} (Fn : Fun K "_law_draw" "_law_draw" s_law_draw fa fd) (Tx : Txt K W mg) : FnOk P W K mg base CX0 1 fa fd ["deck", "many"] (spT K sp_law_draw) :=
  fn_ok (k := 0) Fn sc_law_draw (by rintro ts S R ⟨_, _, _, rfl, _⟩; rfl) (fun cdv A outer s H E hr => bd_law_draw Tx  cdv A outer s H E hr) ok_law_draw
theorem fk_law_pick {fa : Addr} {fd : FuncData} (Fn : Fun K "_law_pick" "_law_pick" s_law_pick fa fd) (Tx : Txt K W mg) (D_law_draw : Def P W K mg base "_law_draw" ["deck", "many"] 1 sp_law_draw) : FnOk P W K mg base CX0 2 fa fd ["deck", "some"] (spT K sp_law_pick) :=
  fn_ok (k := 1) Fn sc_law_pick (by rintro ts S R ⟨_, _, _, rfl, _⟩; rfl) (fun cdv A outer s H E hr => bd_law_pick Tx D_law_draw cdv A outer s H E hr) ok_law_pick
theorem fk_law_shuffled {fa : Addr} {fd : FuncData} (Fn : Fun K "_law_shuffled" "_law_shuffled" s_law_shuffled fa fd) (Tx : Txt K W mg) (D_law_draw : Def P W K mg base "_law_draw" ["deck", "many"] 1 sp_law_draw) : FnOk P W K mg base CX0 2 fa fd ["deck", "some"] (spT K sp_law_shuffled) :=
  fn_ok (k := 1) Fn sc_law_shuffled (by rintro ts S R ⟨_, _, _, _, rfl, _⟩; rfl) (fun cdv A outer s H E hr => bd_law_shuffled Tx D_law_draw cdv A outer s H E hr) ok_law_shuffled
theorem fk_law_is_whole {fa : Addr} {fd : FuncData} (Fn : Fun K "_law_is_whole" "_law_is_whole" s_law_is_whole fa fd) (Tx : Txt K W mg) : FnOk P W K mg base CX0 1 fa fd ["thing", "many"] (spT K sp_law_is_whole) :=
  fn_ok (k := 0) Fn sc_law_is_whole (by rintro ts S R ⟨_, _, rfl, _⟩; rfl) (fun cdv A outer s H E hr => bd_law_is_whole Tx  cdv A outer s H E hr) ok_law_is_whole
theorem fk_law_is_full_name {fa : Addr} {fd : FuncData} (Fn : Fun K "_law_is_full_name" "_law_is_full_name" s_law_is_full_name fa fd) (Tx : Txt K W mg) : FnOk P W K mg base CX0 1 fa fd ["thing"] (spT K sp_law_is_full_name) :=
  fn_ok (k := 0) Fn sc_law_is_full_name (by rintro ts S R ⟨t, rfl, _⟩; rfl) (fun cdv A outer s H E hr => bd_law_is_full_name Tx  cdv A outer s H E hr) ok_law_is_full_name
theorem fk_law_is_operand {fa : Addr} {fd : FuncData} (Fn : Fun K "_law_is_operand" "_law_is_operand" s_law_is_operand fa fd) (Tx : Txt K W mg) (D_law_is_whole : Def P W K mg base "_law_is_whole" ["thing", "many"] 1 sp_law_is_whole) : FnOk P W K mg base CX0 2 fa fd ["thing"] (spT K sp_law_is_operand) :=
  fn_ok (k := 1) Fn sc_law_is_operand (by rintro ts S R ⟨t, rfl, _⟩; rfl) (fun cdv A outer s H E hr => bd_law_is_operand Tx D_law_is_whole cdv A outer s H E hr) ok_law_is_operand
theorem fk_law_is_part {fa : Addr} {fd : FuncData} (Fn : Fun K "_law_is_part" "_law_is_part" s_law_is_part fa fd) (Tx : Txt K W mg) (D_law_is_full_name : Def P W K mg base "_law_is_full_name" ["thing"] 1 sp_law_is_full_name) (D_law_is_operand : Def P W K mg base "_law_is_operand" ["thing"] 2 sp_law_is_operand) (D_law_is_whole : Def P W K mg base "_law_is_whole" ["thing", "many"] 1 sp_law_is_whole) : FnOk P W K mg base CX0 3 fa fd ["kind", "thing", "blocks"] (spT K sp_law_is_part) :=
  fn_ok (k := 2) Fn sc_law_is_part (by rintro ts S R ⟨_, _, _, rfl, _⟩; rfl) (fun cdv A outer s H E hr => bd_law_is_part Tx D_law_is_full_name D_law_is_operand D_law_is_whole cdv A outer s H E hr) ok_law_is_part
theorem fk_law_forms {fa : Addr} {fd : FuncData} (Fn : Fun K "_law_forms" "_law_forms" s_law_forms fa fd) (Tx : Txt K W mg) : FnOk P W K mg base CX0 1 fa fd [] (spT K sp_law_forms) :=
  fn_ok (k := 0) Fn sc_law_forms (by rintro ts S R ⟨rfl, _⟩; rfl) (fun cdv A outer s H E hr => bd_law_forms Tx  cdv A outer s H E hr) ok_law_forms
theorem fk_law_is_built {fa : Addr} {fd : FuncData} (Fn : Fun K "_law_is_built" "_law_is_built" s_law_is_built fa fd) (Tx : Txt K W mg) (D_law_is_part : Def P W K mg base "_law_is_part" ["kind", "thing", "blocks"] 3 sp_law_is_part) : FnOk P W K mg base CX0 4 fa fd ["forms", "thing", "blocks"] (spT K sp_law_is_built) :=
  fn_ok (k := 3) Fn sc_law_is_built (by rintro ts S R ⟨_, _, _, _, rfl, _⟩; rfl) (fun cdv A outer s H E hr => bd_law_is_built Tx D_law_is_part cdv A outer s H E hr) ok_law_is_built
theorem fk_law_is_graph {fa : Addr} {fd : FuncData} (Fn : Fun K "_law_is_graph" "_law_is_graph" s_law_is_graph fa fd) (Tx : Txt K W mg) (D_law_forms : Def P W K mg base "_law_forms" [] 1 sp_law_forms) (D_law_is_built : Def P W K mg base "_law_is_built" ["forms", "thing", "blocks"] 4 sp_law_is_built) (D_law_is_whole : Def P W K mg base "_law_is_whole" ["thing", "many"] 1 sp_law_is_whole) : FnOk P W K mg base CX0 5 fa fd ["thing"] (spT K sp_law_is_graph) :=
  fn_okF (k := 4) Fn sc_law_is_graph (by rintro ts S R ⟨t, rfl, _⟩; rfl) (fun cdv A outer s H E hr => bd_law_is_graph Tx D_law_forms D_law_is_built D_law_is_whole cdv A outer s H E hr) ok_law_is_graph
theorem fk_law_wrongs {fa : Addr} {fd : FuncData} (Fn : Fun K "_law_wrongs" "_law_wrongs" s_law_wrongs fa fd) (Tx : Txt K W mg) : FnOk P W K mg base CX0 1 fa fd [] (spT K sp_law_wrongs) :=
  fn_ok (k := 0) Fn sc_law_wrongs (by rintro ts S R ⟨rfl, _⟩; rfl) (fun cdv A outer s H E hr => bd_law_wrongs Tx  cdv A outer s H E hr) ok_law_wrongs
theorem fk0_law_right {fa : Addr} {fd : FuncData} (Fn : Fun K "_law_right" "_law_right" s_law_right fa fd) : FnOk P W K mg base CX0 1 fa fd ["deck", "kind", "blocks"] (spT K fun _ _ _ => False) := fn_false (k := 0) Fn sc_law_right
theorem fk1_law_right {fa : Addr} {fd : FuncData} (Fn : Fun K "_law_right" "_law_right" s_law_right fa fd) (Tx : Txt K W mg) (D_law_draw : Def P W K mg base "_law_draw" ["deck", "many"] 1 sp_law_draw) (D_law_pick : Def P W K mg base "_law_pick" ["deck", "some"] 2 sp_law_pick) (D0 : Def P W K mg base "_law_right" ["deck", "kind", "blocks"] 1 fun _ _ _ => False) : FnOk P W K mg base CX0 3 fa fd ["deck", "kind", "blocks"] (spT K sp_right_a) :=
  fn_ok (k := 2) Fn sc_law_right (by rintro ts S R ⟨_, _, _, rfl, _⟩; rfl) (fun cdv A outer s H E hr => bd_law_right (k0 := 1) (kk := 2) Tx D_law_draw D_law_pick D0 (by decide) (by decide) cdv A outer s H E hr) ok_right_a
theorem fk_law_right {fa : Addr} {fd : FuncData} (Fn : Fun K "_law_right" "_law_right" s_law_right fa fd) (Tx : Txt K W mg) (D_law_draw : Def P W K mg base "_law_draw" ["deck", "many"] 1 sp_law_draw) (D_law_pick : Def P W K mg base "_law_pick" ["deck", "some"] 2 sp_law_pick) (D1 : Def P W K mg base "_law_right" ["deck", "kind", "blocks"] 3 sp_right_a) : FnOk P W K mg base CX0 4 fa fd ["deck", "kind", "blocks"] (spT K sp_law_right) :=
  fn_ok (k := 3) Fn sc_law_right (by rintro ts S R ⟨_, _, _, _, rfl, _⟩; rfl) (fun cdv A outer s H E hr => bd_law_right (k0 := 3) (kk := 3) Tx D_law_draw D_law_pick D1 (by decide) (by decide) cdv A outer s H E hr) ok_law_right
theorem fk_law_built {fa : Addr} {fd : FuncData} (Fn : Fun K "_law_built" "_law_built" s_law_built fa fd) (Tx : Txt K W mg) (D_law_pick : Def P W K mg base "_law_pick" ["deck", "some"] 2 sp_law_pick) (D_law_right : Def P W K mg base "_law_right" ["deck", "kind", "blocks"] 4 sp_law_right) : FnOk P W K mg base CX0 5 fa fd ["deck", "forms", "blocks"] (spT K sp_law_built) :=
  fn_ok (k := 4) Fn sc_law_built (by rintro ts S R ⟨_, _, _, _, _, rfl, _⟩; rfl) (fun cdv A outer s H E hr => bd_law_built Tx D_law_pick D_law_right cdv A outer s H E hr) ok_law_built
theorem fk_law_graph {fa : Addr} {fd : FuncData} (Fn : Fun K "_law_graph" "_law_graph" s_law_graph fa fd) (Tx : Txt K W mg) (D_law_built : Def P W K mg base "_law_built" ["deck", "forms", "blocks"] 5 sp_law_built) (D_law_draw : Def P W K mg base "_law_draw" ["deck", "many"] 1 sp_law_draw) (D_law_forms : Def P W K mg base "_law_forms" [] 1 sp_law_forms) : FnOk P W K mg base CX0 6 fa fd ["deck"] (spT K sp_law_graph) :=
  fn_ok (k := 5) Fn sc_law_graph (by rintro ts S R ⟨_, _, rfl, _⟩; rfl) (fun cdv A outer s H E hr => bd_law_graph Tx D_law_built D_law_draw D_law_forms cdv A outer s H E hr) ok_law_graph
theorem fk_law_put {fa : Addr} {fd : FuncData} (Fn : Fun K "_law_put" "_law_put" s_law_put fa fd) (Tx : Txt K W mg) : FnOk P W K mg base CX0 1 fa fd ["graph", "at", "block"] (spT K sp_law_put) :=
  fn_ok (k := 0) Fn sc_law_put (by rintro ts S R ⟨_, _, _, _, rfl, _⟩; rfl) (fun cdv A outer s H E hr => bd_law_put Tx  cdv A outer s H E hr) ok_law_put
theorem fk_law_near_rows {fa : Addr} {fd : FuncData} (Fn : Fun K "_law_near_rows" "_law_near_rows" s_law_near_rows fa fd) (Tx : Txt K W mg) (D_law_pick : Def P W K mg base "_law_pick" ["deck", "some"] 2 sp_law_pick) (D_law_right : Def P W K mg base "_law_right" ["deck", "kind", "blocks"] 4 sp_law_right) (D_law_shuffled : Def P W K mg base "_law_shuffled" ["deck", "some"] 2 sp_law_shuffled) (D_law_wrongs : Def P W K mg base "_law_wrongs" [] 1 sp_law_wrongs) : FnOk P W K mg base CX0 5 fa fd ["deck", "forms", "row", "blocks"] (spT K sp_law_near_rows) :=
  fn_ok (k := 4) Fn sc_law_near_rows (by rintro ts S R ⟨_, _, _, _, _, _, _, _, rfl, _⟩; rfl) (fun cdv A outer s H E hr => bd_law_near_rows Tx D_law_pick D_law_right D_law_shuffled D_law_wrongs cdv A outer s H E hr) ok_law_near_rows
theorem fk_law_near_graphs {fa : Addr} {fd : FuncData} (Fn : Fun K "_law_near_graphs" "_law_near_graphs" s_law_near_graphs fa fd) (Tx : Txt K W mg) (D_law_draw : Def P W K mg base "_law_draw" ["deck", "many"] 1 sp_law_draw) (D_law_put : Def P W K mg base "_law_put" ["graph", "at", "block"] 1 sp_law_put) : FnOk P W K mg base CX0 2 fa fd ["deck", "graph"] (spT K sp_law_near_graphs) :=
  fn_ok (k := 1) Fn sc_law_near_graphs (by rintro ts S R ⟨_, _, _, rfl, _⟩; rfl) (fun cdv A outer s H E hr => bd_law_near_graphs Tx D_law_draw D_law_put cdv A outer s H E hr) ok_law_near_graphs
theorem fk_law_great {fa : Addr} {fd : FuncData} (Fn : Fun K "_law_great" "_law_great" s_law_great fa fd) (Tx : Txt K W mg) (D_law_draw : Def P W K mg base "_law_draw" ["deck", "many"] 1 sp_law_draw) : FnOk P W K mg base CX0 2 fa fd ["deck"] (spT K sp_law_great) :=
  fn_ok (k := 1) Fn sc_law_great (by rintro ts S R ⟨_, _, rfl, _⟩; rfl) (fun cdv A outer s H E hr => bd_law_great Tx D_law_draw cdv A outer s H E hr) ok_law_great
theorem fk_law {fa : Addr} {fd : FuncData} (Fn : Fun K "law" "law" s_law fa fd) (Tx : Txt K W mg) (D_law_deck : Def P W K mg base "_law_deck" ["script"] 1 sp_law_deck) (D_law_draw : Def P W K mg base "_law_draw" ["deck", "many"] 1 sp_law_draw) (D_law_forms : Def P W K mg base "_law_forms" [] 1 sp_law_forms) (D_law_graph : Def P W K mg base "_law_graph" ["deck"] 6 sp_law_graph) (D_law_great : Def P W K mg base "_law_great" ["deck"] 2 sp_law_great) (D_law_is_graph : Def P W K mg base "_law_is_graph" ["thing"] 5 sp_law_is_graph) (D_law_near_graphs : Def P W K mg base "_law_near_graphs" ["deck", "graph"] 2 sp_law_near_graphs) (D_law_near_rows : Def P W K mg base "_law_near_rows" ["deck", "forms", "row", "blocks"] 5 sp_law_near_rows) (D_law_pick : Def P W K mg base "_law_pick" ["deck", "some"] 2 sp_law_pick) (D_law_put : Def P W K mg base "_law_put" ["graph", "at", "block"] 1 sp_law_put) (D_law_right : Def P W K mg base "_law_right" ["deck", "kind", "blocks"] 4 sp_law_right) (D_law_shuffled : Def P W K mg base "_law_shuffled" ["deck", "some"] 2 sp_law_shuffled) (D_is_graph : Def P W K mg base "is_graph" ["thing"] 8 sp_is_graph) (K_is_graph : DefK P W K mg base "is_graph" ["thing"] ["thing"] [0] 8 sp_is_graph) : FnOk P W K mg base CX0 9 fa fd ["script"] (spT K sp_law) :=
  fn_ok (k := 8) Fn sc_law (by rintro ts S R ⟨_, rfl, _⟩; rfl) (fun cdv A outer s H E hr => bd_law Tx D_law_deck D_law_draw D_law_forms D_law_graph D_law_great D_law_is_graph D_law_near_graphs D_law_near_rows D_law_pick D_law_put D_law_right D_law_shuffled D_is_graph K_is_graph cdv A outer s H E hr) ok_law
end
theorem all_mk {l : PySem.W.OpenLaw} {w : World} {K : PySem.W.Frag} {h : Heap} {mg : Str → Option Value} {fa f0 f1 f2 f3 f4 f5 f6 f7 f8 f9 f10 f11 f12 f13 f14 f15 f16 f17 f18 f19 f20 f21 f22 f23 f24 f25 f26 f27 f28 f29 f30 f31 f32 f33 f34 f35 f36 : Addr} (X : K.In h) (G : h.Ns mainGlobals mg) (hfa : mg "law" = some (.ref fa))
    {od0 an0 : Option Addr} {sl0 : Array (Option Value)} {oc0 kV0 dc0 pm0 cd0 ct0 : Value} (a0 : PySem.W.nsIn K mainGlobals "size_of" = some (some (.ref f0))) (l0 : K.lookup f0 = some ⟨oc0, od0, .func (PySem.W.fnOf "size_of" "size_of" (defArgs s_size_of) (defBody s_size_of) (defScope s_size_of) .none kV0 dc0 pm0 an0 cd0 ct0), sl0⟩) (c0 : PySem.W.codeIn K cd0 "size_of" = true) (k0 : PySem.W.keepIn K (.ref f0) = true)
    {od1 an1 : Option Addr} {sl1 : Array (Option Value)} {oc1 kV1 dc1 pm1 cd1 ct1 : Value} (a1 : PySem.W.nsIn K mainGlobals "is_integer" = some (some (.ref f1))) (l1 : K.lookup f1 = some ⟨oc1, od1, .func (PySem.W.fnOf "is_integer" "is_integer" (defArgs s_is_integer) (defBody s_is_integer) (defScope s_is_integer) .none kV1 dc1 pm1 an1 cd1 ct1), sl1⟩) (c1 : PySem.W.codeIn K cd1 "is_integer" = true) (k1 : PySem.W.keepIn K (.ref f1) = true)
    {od2 an2 : Option Addr} {sl2 : Array (Option Value)} {oc2 kV2 dc2 pm2 cd2 ct2 : Value} (a2 : PySem.W.nsIn K mainGlobals "is_word" = some (some (.ref f2))) (l2 : K.lookup f2 = some ⟨oc2, od2, .func (PySem.W.fnOf "is_word" "is_word" (defArgs s_is_word) (defBody s_is_word) (defScope s_is_word) .none kV2 dc2 pm2 an2 cd2 ct2), sl2⟩) (c2 : PySem.W.codeIn K cd2 "is_word" = true) (k2 : PySem.W.keepIn K (.ref f2) = true)
    {od3 an3 : Option Addr} {sl3 : Array (Option Value)} {oc3 kV3 dc3 pm3 cd3 ct3 : Value} (a3 : PySem.W.nsIn K mainGlobals "is_name" = some (some (.ref f3))) (l3 : K.lookup f3 = some ⟨oc3, od3, .func (PySem.W.fnOf "is_name" "is_name" (defArgs s_is_name) (defBody s_is_name) (defScope s_is_name) .none kV3 dc3 pm3 an3 cd3 ct3), sl3⟩) (c3 : PySem.W.codeIn K cd3 "is_name" = true) (k3 : PySem.W.keepIn K (.ref f3) = true)
    {od4 an4 : Option Addr} {sl4 : Array (Option Value)} {oc4 kV4 dc4 pm4 cd4 ct4 : Value} (a4 : PySem.W.nsIn K mainGlobals "is_full_name" = some (some (.ref f4))) (l4 : K.lookup f4 = some ⟨oc4, od4, .func (PySem.W.fnOf "is_full_name" "is_full_name" (defArgs s_is_full_name) (defBody s_is_full_name) (defScope s_is_full_name) .none kV4 dc4 pm4 an4 cd4 ct4), sl4⟩) (c4 : PySem.W.codeIn K cd4 "is_full_name" = true) (k4 : PySem.W.keepIn K (.ref f4) = true)
    {od5 an5 : Option Addr} {sl5 : Array (Option Value)} {oc5 kV5 dc5 pm5 cd5 ct5 : Value} (a5 : PySem.W.nsIn K mainGlobals "is_function_value" = some (some (.ref f5))) (l5 : K.lookup f5 = some ⟨oc5, od5, .func (PySem.W.fnOf "is_function_value" "is_function_value" (defArgs s_is_function_value) (defBody s_is_function_value) (defScope s_is_function_value) .none kV5 dc5 pm5 an5 cd5 ct5), sl5⟩) (c5 : PySem.W.codeIn K cd5 "is_function_value" = true) (k5 : PySem.W.keepIn K (.ref f5) = true)
    {od6 an6 : Option Addr} {sl6 : Array (Option Value)} {oc6 kV6 dc6 pm6 cd6 ct6 : Value} (a6 : PySem.W.nsIn K mainGlobals "is_value" = some (some (.ref f6))) (l6 : K.lookup f6 = some ⟨oc6, od6, .func (PySem.W.fnOf "is_value" "is_value" (defArgs s_is_value) (defBody s_is_value) (defScope s_is_value) .none kV6 dc6 pm6 an6 cd6 ct6), sl6⟩) (c6 : PySem.W.codeIn K cd6 "is_value" = true) (k6 : PySem.W.keepIn K (.ref f6) = true)
    {od7 an7 : Option Addr} {sl7 : Array (Option Value)} {oc7 kV7 dc7 pm7 cd7 ct7 : Value} (a7 : PySem.W.nsIn K mainGlobals "is_variable" = some (some (.ref f7))) (l7 : K.lookup f7 = some ⟨oc7, od7, .func (PySem.W.fnOf "is_variable" "is_variable" (defArgs s_is_variable) (defBody s_is_variable) (defScope s_is_variable) .none kV7 dc7 pm7 an7 cd7 ct7), sl7⟩) (c7 : PySem.W.codeIn K cd7 "is_variable" = true) (k7 : PySem.W.keepIn K (.ref f7) = true)
    {od8 an8 : Option Addr} {sl8 : Array (Option Value)} {oc8 kV8 dc8 pm8 cd8 ct8 : Value} (a8 : PySem.W.nsIn K mainGlobals "is_operand" = some (some (.ref f8))) (l8 : K.lookup f8 = some ⟨oc8, od8, .func (PySem.W.fnOf "is_operand" "is_operand" (defArgs s_is_operand) (defBody s_is_operand) (defScope s_is_operand) .none kV8 dc8 pm8 an8 cd8 ct8), sl8⟩) (c8 : PySem.W.codeIn K cd8 "is_operand" = true) (k8 : PySem.W.keepIn K (.ref f8) = true)
    {od9 an9 : Option Addr} {sl9 : Array (Option Value)} {oc9 kV9 dc9 pm9 cd9 ct9 : Value} (a9 : PySem.W.nsIn K mainGlobals "are_operands" = some (some (.ref f9))) (l9 : K.lookup f9 = some ⟨oc9, od9, .func (PySem.W.fnOf "are_operands" "are_operands" (defArgs s_are_operands) (defBody s_are_operands) (defScope s_are_operands) .none kV9 dc9 pm9 an9 cd9 ct9), sl9⟩) (c9 : PySem.W.codeIn K cd9 "are_operands" = true) (k9 : PySem.W.keepIn K (.ref f9) = true)
    {od10 an10 : Option Addr} {sl10 : Array (Option Value)} {oc10 kV10 dc10 pm10 cd10 ct10 : Value} (a10 : PySem.W.nsIn K mainGlobals "has_word" = some (some (.ref f10))) (l10 : K.lookup f10 = some ⟨oc10, od10, .func (PySem.W.fnOf "has_word" "has_word" (defArgs s_has_word) (defBody s_has_word) (defScope s_has_word) .none kV10 dc10 pm10 an10 cd10 ct10), sl10⟩) (c10 : PySem.W.codeIn K cd10 "has_word" = true) (k10 : PySem.W.keepIn K (.ref f10) = true)
    {od11 an11 : Option Addr} {sl11 : Array (Option Value)} {oc11 kV11 dc11 pm11 cd11 ct11 : Value} (a11 : PySem.W.nsIn K mainGlobals "is_instruction" = some (some (.ref f11))) (l11 : K.lookup f11 = some ⟨oc11, od11, .func (PySem.W.fnOf "is_instruction" "is_instruction" (defArgs s_is_instruction) (defBody s_is_instruction) (defScope s_is_instruction) .none kV11 dc11 pm11 an11 cd11 ct11), sl11⟩) (c11 : PySem.W.codeIn K cd11 "is_instruction" = true) (k11 : PySem.W.keepIn K (.ref f11) = true)
    {od12 an12 : Option Addr} {sl12 : Array (Option Value)} {oc12 kV12 dc12 pm12 cd12 ct12 : Value} (a12 : PySem.W.nsIn K mainGlobals "is_block_number" = some (some (.ref f12))) (l12 : K.lookup f12 = some ⟨oc12, od12, .func (PySem.W.fnOf "is_block_number" "is_block_number" (defArgs s_is_block_number) (defBody s_is_block_number) (defScope s_is_block_number) .none kV12 dc12 pm12 an12 cd12 ct12), sl12⟩) (c12 : PySem.W.codeIn K cd12 "is_block_number" = true) (k12 : PySem.W.keepIn K (.ref f12) = true)
    {od13 an13 : Option Addr} {sl13 : Array (Option Value)} {oc13 kV13 dc13 pm13 cd13 ct13 : Value} (a13 : PySem.W.nsIn K mainGlobals "is_terminator" = some (some (.ref f13))) (l13 : K.lookup f13 = some ⟨oc13, od13, .func (PySem.W.fnOf "is_terminator" "is_terminator" (defArgs s_is_terminator) (defBody s_is_terminator) (defScope s_is_terminator) .none kV13 dc13 pm13 an13 cd13 ct13), sl13⟩) (c13 : PySem.W.codeIn K cd13 "is_terminator" = true) (k13 : PySem.W.keepIn K (.ref f13) = true)
    {od14 an14 : Option Addr} {sl14 : Array (Option Value)} {oc14 kV14 dc14 pm14 cd14 ct14 : Value} (a14 : PySem.W.nsIn K mainGlobals "is_block" = some (some (.ref f14))) (l14 : K.lookup f14 = some ⟨oc14, od14, .func (PySem.W.fnOf "is_block" "is_block" (defArgs s_is_block) (defBody s_is_block) (defScope s_is_block) .none kV14 dc14 pm14 an14 cd14 ct14), sl14⟩) (c14 : PySem.W.codeIn K cd14 "is_block" = true) (k14 : PySem.W.keepIn K (.ref f14) = true)
    {od15 an15 : Option Addr} {sl15 : Array (Option Value)} {oc15 kV15 dc15 pm15 cd15 ct15 : Value} (a15 : PySem.W.nsIn K mainGlobals "is_graph_value" = some (some (.ref f15))) (l15 : K.lookup f15 = some ⟨oc15, od15, .func (PySem.W.fnOf "is_graph_value" "is_graph_value" (defArgs s_is_graph_value) (defBody s_is_graph_value) (defScope s_is_graph_value) .none kV15 dc15 pm15 an15 cd15 ct15), sl15⟩) (c15 : PySem.W.codeIn K cd15 "is_graph_value" = true) (k15 : PySem.W.keepIn K (.ref f15) = true)
    {od16 an16 : Option Addr} {sl16 : Array (Option Value)} {oc16 kV16 dc16 pm16 cd16 ct16 : Value} (a16 : PySem.W.nsIn K mainGlobals "is_graph" = some (some (.ref f16))) (l16 : K.lookup f16 = some ⟨oc16, od16, .func (PySem.W.fnOf "is_graph" "is_graph" (defArgs s_is_graph) (defBody s_is_graph) (defScope s_is_graph) .none kV16 dc16 pm16 an16 cd16 ct16), sl16⟩) (c16 : PySem.W.codeIn K cd16 "is_graph" = true) (k16 : PySem.W.keepIn K (.ref f16) = true)
    {od17 an17 : Option Addr} {sl17 : Array (Option Value)} {oc17 kV17 dc17 pm17 cd17 ct17 : Value} (a17 : PySem.W.nsIn K mainGlobals "_law_deck" = some (some (.ref f17))) (l17 : K.lookup f17 = some ⟨oc17, od17, .func (PySem.W.fnOf "_law_deck" "_law_deck" (defArgs s_law_deck) (defBody s_law_deck) (defScope s_law_deck) .none kV17 dc17 pm17 an17 cd17 ct17), sl17⟩) (c17 : PySem.W.codeIn K cd17 "_law_deck" = true) (k17 : PySem.W.keepIn K (.ref f17) = true)
    {od18 an18 : Option Addr} {sl18 : Array (Option Value)} {oc18 kV18 dc18 pm18 cd18 ct18 : Value} (a18 : PySem.W.nsIn K mainGlobals "_law_draw" = some (some (.ref f18))) (l18 : K.lookup f18 = some ⟨oc18, od18, .func (PySem.W.fnOf "_law_draw" "_law_draw" (defArgs s_law_draw) (defBody s_law_draw) (defScope s_law_draw) .none kV18 dc18 pm18 an18 cd18 ct18), sl18⟩) (c18 : PySem.W.codeIn K cd18 "_law_draw" = true) (k18 : PySem.W.keepIn K (.ref f18) = true)
    {od19 an19 : Option Addr} {sl19 : Array (Option Value)} {oc19 kV19 dc19 pm19 cd19 ct19 : Value} (a19 : PySem.W.nsIn K mainGlobals "_law_pick" = some (some (.ref f19))) (l19 : K.lookup f19 = some ⟨oc19, od19, .func (PySem.W.fnOf "_law_pick" "_law_pick" (defArgs s_law_pick) (defBody s_law_pick) (defScope s_law_pick) .none kV19 dc19 pm19 an19 cd19 ct19), sl19⟩) (c19 : PySem.W.codeIn K cd19 "_law_pick" = true) (k19 : PySem.W.keepIn K (.ref f19) = true)
    {od20 an20 : Option Addr} {sl20 : Array (Option Value)} {oc20 kV20 dc20 pm20 cd20 ct20 : Value} (a20 : PySem.W.nsIn K mainGlobals "_law_shuffled" = some (some (.ref f20))) (l20 : K.lookup f20 = some ⟨oc20, od20, .func (PySem.W.fnOf "_law_shuffled" "_law_shuffled" (defArgs s_law_shuffled) (defBody s_law_shuffled) (defScope s_law_shuffled) .none kV20 dc20 pm20 an20 cd20 ct20), sl20⟩) (c20 : PySem.W.codeIn K cd20 "_law_shuffled" = true) (k20 : PySem.W.keepIn K (.ref f20) = true)
    {od21 an21 : Option Addr} {sl21 : Array (Option Value)} {oc21 kV21 dc21 pm21 cd21 ct21 : Value} (a21 : PySem.W.nsIn K mainGlobals "_law_is_whole" = some (some (.ref f21))) (l21 : K.lookup f21 = some ⟨oc21, od21, .func (PySem.W.fnOf "_law_is_whole" "_law_is_whole" (defArgs s_law_is_whole) (defBody s_law_is_whole) (defScope s_law_is_whole) .none kV21 dc21 pm21 an21 cd21 ct21), sl21⟩) (c21 : PySem.W.codeIn K cd21 "_law_is_whole" = true) (k21 : PySem.W.keepIn K (.ref f21) = true)
    {od22 an22 : Option Addr} {sl22 : Array (Option Value)} {oc22 kV22 dc22 pm22 cd22 ct22 : Value} (a22 : PySem.W.nsIn K mainGlobals "_law_is_full_name" = some (some (.ref f22))) (l22 : K.lookup f22 = some ⟨oc22, od22, .func (PySem.W.fnOf "_law_is_full_name" "_law_is_full_name" (defArgs s_law_is_full_name) (defBody s_law_is_full_name) (defScope s_law_is_full_name) .none kV22 dc22 pm22 an22 cd22 ct22), sl22⟩) (c22 : PySem.W.codeIn K cd22 "_law_is_full_name" = true) (k22 : PySem.W.keepIn K (.ref f22) = true)
    {od23 an23 : Option Addr} {sl23 : Array (Option Value)} {oc23 kV23 dc23 pm23 cd23 ct23 : Value} (a23 : PySem.W.nsIn K mainGlobals "_law_is_operand" = some (some (.ref f23))) (l23 : K.lookup f23 = some ⟨oc23, od23, .func (PySem.W.fnOf "_law_is_operand" "_law_is_operand" (defArgs s_law_is_operand) (defBody s_law_is_operand) (defScope s_law_is_operand) .none kV23 dc23 pm23 an23 cd23 ct23), sl23⟩) (c23 : PySem.W.codeIn K cd23 "_law_is_operand" = true) (k23 : PySem.W.keepIn K (.ref f23) = true)
    {od24 an24 : Option Addr} {sl24 : Array (Option Value)} {oc24 kV24 dc24 pm24 cd24 ct24 : Value} (a24 : PySem.W.nsIn K mainGlobals "_law_is_part" = some (some (.ref f24))) (l24 : K.lookup f24 = some ⟨oc24, od24, .func (PySem.W.fnOf "_law_is_part" "_law_is_part" (defArgs s_law_is_part) (defBody s_law_is_part) (defScope s_law_is_part) .none kV24 dc24 pm24 an24 cd24 ct24), sl24⟩) (c24 : PySem.W.codeIn K cd24 "_law_is_part" = true) (k24 : PySem.W.keepIn K (.ref f24) = true)
    {od25 an25 : Option Addr} {sl25 : Array (Option Value)} {oc25 kV25 dc25 pm25 cd25 ct25 : Value} (a25 : PySem.W.nsIn K mainGlobals "_law_forms" = some (some (.ref f25))) (l25 : K.lookup f25 = some ⟨oc25, od25, .func (PySem.W.fnOf "_law_forms" "_law_forms" (defArgs s_law_forms) (defBody s_law_forms) (defScope s_law_forms) .none kV25 dc25 pm25 an25 cd25 ct25), sl25⟩) (c25 : PySem.W.codeIn K cd25 "_law_forms" = true) (k25 : PySem.W.keepIn K (.ref f25) = true)
    {od26 an26 : Option Addr} {sl26 : Array (Option Value)} {oc26 kV26 dc26 pm26 cd26 ct26 : Value} (a26 : PySem.W.nsIn K mainGlobals "_law_is_built" = some (some (.ref f26))) (l26 : K.lookup f26 = some ⟨oc26, od26, .func (PySem.W.fnOf "_law_is_built" "_law_is_built" (defArgs s_law_is_built) (defBody s_law_is_built) (defScope s_law_is_built) .none kV26 dc26 pm26 an26 cd26 ct26), sl26⟩) (c26 : PySem.W.codeIn K cd26 "_law_is_built" = true) (k26 : PySem.W.keepIn K (.ref f26) = true)
    {od27 an27 : Option Addr} {sl27 : Array (Option Value)} {oc27 kV27 dc27 pm27 cd27 ct27 : Value} (a27 : PySem.W.nsIn K mainGlobals "_law_is_graph" = some (some (.ref f27))) (l27 : K.lookup f27 = some ⟨oc27, od27, .func (PySem.W.fnOf "_law_is_graph" "_law_is_graph" (defArgs s_law_is_graph) (defBody s_law_is_graph) (defScope s_law_is_graph) .none kV27 dc27 pm27 an27 cd27 ct27), sl27⟩) (c27 : PySem.W.codeIn K cd27 "_law_is_graph" = true) (k27 : PySem.W.keepIn K (.ref f27) = true)
    {od28 an28 : Option Addr} {sl28 : Array (Option Value)} {oc28 kV28 dc28 pm28 cd28 ct28 : Value} (a28 : PySem.W.nsIn K mainGlobals "_law_wrongs" = some (some (.ref f28))) (l28 : K.lookup f28 = some ⟨oc28, od28, .func (PySem.W.fnOf "_law_wrongs" "_law_wrongs" (defArgs s_law_wrongs) (defBody s_law_wrongs) (defScope s_law_wrongs) .none kV28 dc28 pm28 an28 cd28 ct28), sl28⟩) (c28 : PySem.W.codeIn K cd28 "_law_wrongs" = true) (k28 : PySem.W.keepIn K (.ref f28) = true)
    {od29 an29 : Option Addr} {sl29 : Array (Option Value)} {oc29 kV29 dc29 pm29 cd29 ct29 : Value} (a29 : PySem.W.nsIn K mainGlobals "_law_right" = some (some (.ref f29))) (l29 : K.lookup f29 = some ⟨oc29, od29, .func (PySem.W.fnOf "_law_right" "_law_right" (defArgs s_law_right) (defBody s_law_right) (defScope s_law_right) .none kV29 dc29 pm29 an29 cd29 ct29), sl29⟩) (c29 : PySem.W.codeIn K cd29 "_law_right" = true) (k29 : PySem.W.keepIn K (.ref f29) = true)
    {od30 an30 : Option Addr} {sl30 : Array (Option Value)} {oc30 kV30 dc30 pm30 cd30 ct30 : Value} (a30 : PySem.W.nsIn K mainGlobals "_law_built" = some (some (.ref f30))) (l30 : K.lookup f30 = some ⟨oc30, od30, .func (PySem.W.fnOf "_law_built" "_law_built" (defArgs s_law_built) (defBody s_law_built) (defScope s_law_built) .none kV30 dc30 pm30 an30 cd30 ct30), sl30⟩) (c30 : PySem.W.codeIn K cd30 "_law_built" = true) (k30 : PySem.W.keepIn K (.ref f30) = true)
    {od31 an31 : Option Addr} {sl31 : Array (Option Value)} {oc31 kV31 dc31 pm31 cd31 ct31 : Value} (a31 : PySem.W.nsIn K mainGlobals "_law_graph" = some (some (.ref f31))) (l31 : K.lookup f31 = some ⟨oc31, od31, .func (PySem.W.fnOf "_law_graph" "_law_graph" (defArgs s_law_graph) (defBody s_law_graph) (defScope s_law_graph) .none kV31 dc31 pm31 an31 cd31 ct31), sl31⟩) (c31 : PySem.W.codeIn K cd31 "_law_graph" = true) (k31 : PySem.W.keepIn K (.ref f31) = true)
    {od32 an32 : Option Addr} {sl32 : Array (Option Value)} {oc32 kV32 dc32 pm32 cd32 ct32 : Value} (a32 : PySem.W.nsIn K mainGlobals "_law_put" = some (some (.ref f32))) (l32 : K.lookup f32 = some ⟨oc32, od32, .func (PySem.W.fnOf "_law_put" "_law_put" (defArgs s_law_put) (defBody s_law_put) (defScope s_law_put) .none kV32 dc32 pm32 an32 cd32 ct32), sl32⟩) (c32 : PySem.W.codeIn K cd32 "_law_put" = true) (k32 : PySem.W.keepIn K (.ref f32) = true)
    {od33 an33 : Option Addr} {sl33 : Array (Option Value)} {oc33 kV33 dc33 pm33 cd33 ct33 : Value} (a33 : PySem.W.nsIn K mainGlobals "_law_near_rows" = some (some (.ref f33))) (l33 : K.lookup f33 = some ⟨oc33, od33, .func (PySem.W.fnOf "_law_near_rows" "_law_near_rows" (defArgs s_law_near_rows) (defBody s_law_near_rows) (defScope s_law_near_rows) .none kV33 dc33 pm33 an33 cd33 ct33), sl33⟩) (c33 : PySem.W.codeIn K cd33 "_law_near_rows" = true) (k33 : PySem.W.keepIn K (.ref f33) = true)
    {od34 an34 : Option Addr} {sl34 : Array (Option Value)} {oc34 kV34 dc34 pm34 cd34 ct34 : Value} (a34 : PySem.W.nsIn K mainGlobals "_law_near_graphs" = some (some (.ref f34))) (l34 : K.lookup f34 = some ⟨oc34, od34, .func (PySem.W.fnOf "_law_near_graphs" "_law_near_graphs" (defArgs s_law_near_graphs) (defBody s_law_near_graphs) (defScope s_law_near_graphs) .none kV34 dc34 pm34 an34 cd34 ct34), sl34⟩) (c34 : PySem.W.codeIn K cd34 "_law_near_graphs" = true) (k34 : PySem.W.keepIn K (.ref f34) = true)
    {od35 an35 : Option Addr} {sl35 : Array (Option Value)} {oc35 kV35 dc35 pm35 cd35 ct35 : Value} (a35 : PySem.W.nsIn K mainGlobals "_law_great" = some (some (.ref f35))) (l35 : K.lookup f35 = some ⟨oc35, od35, .func (PySem.W.fnOf "_law_great" "_law_great" (defArgs s_law_great) (defBody s_law_great) (defScope s_law_great) .none kV35 dc35 pm35 an35 cd35 ct35), sl35⟩) (c35 : PySem.W.codeIn K cd35 "_law_great" = true) (k35 : PySem.W.keepIn K (.ref f35) = true)
    {od36 an36 : Option Addr} {sl36 : Array (Option Value)} {oc36 kV36 dc36 pm36 cd36 ct36 : Value} (a36 : PySem.W.nsIn K mainGlobals "law" = some (some (.ref f36))) (l36 : K.lookup f36 = some ⟨oc36, od36, .func (PySem.W.fnOf "law" "law" (defArgs s_law) (defBody s_law) (defScope s_law) .none kV36 dc36 pm36 an36 cd36 ct36), sl36⟩) (c36 : PySem.W.codeIn K cd36 "law" = true) (k36 : PySem.W.keepIn K (.ref f36) = true)
    (z_all : PySem.W.nsIn K mainGlobals "all" = some none)
    (z_bool : PySem.W.nsIn K mainGlobals "bool" = some none)
    (z_enumerate : PySem.W.nsIn K mainGlobals "enumerate" = some none)
    (z_int : PySem.W.nsIn K mainGlobals "int" = some none)
    (z_isinstance : PySem.W.nsIn K mainGlobals "isinstance" = some none)
    (z_len : PySem.W.nsIn K mainGlobals "len" = some none)
    (z_list : PySem.W.nsIn K mainGlobals "list" = some none)
    (z_max : PySem.W.nsIn K mainGlobals "max" = some none)
    (z_range : PySem.W.nsIn K mainGlobals "range" = some none)
    (z_sorted : PySem.W.nsIn K mainGlobals "sorted" = some none)
    (z_str : PySem.W.nsIn K mainGlobals "str" = some none)
    (z_sum : PySem.W.nsIn K mainGlobals "sum" = some none)
    (z_tuple : PySem.W.nsIn K mainGlobals "tuple" = some none)
    (z_zip : PySem.W.nsIn K mainGlobals "zip" = some none)
    {p_END_PARTS : Addr} {es_END_PARTS : Array DictEntry} {n_END_PARTS : Nat} (g_END_PARTS : PySem.W.nsIn K mainGlobals "END_PARTS" = some (some (.ref p_END_PARTS))) (h_END_PARTS : K.lookup p_END_PARTS = some ⟨.type "dict", none, .dict es_END_PARTS n_END_PARTS, #[]⟩) (s_END_PARTS : PySem.W.KeysLit w.params es_END_PARTS.toList) (o_END_PARTS : (p_END_PARTS == sysModules) = false) (r_END_PARTS : EntsR es_END_PARTS.toList c_END_PARTS)
    {t_GREATEST_WORD : Tok} (g_GREATEST_WORD : PySem.W.nsIn K mainGlobals "GREATEST_WORD" = some (some (.int 65535 t_GREATEST_WORD)))
    {t_LETTERS : Tok} (g_LETTERS : PySem.W.nsIn K mainGlobals "LETTERS" = some (some (.str "abcdefghijklmnopqrstuvwxyz" t_LETTERS)))
    {t_LONGEST_NAME : Tok} (g_LONGEST_NAME : PySem.W.nsIn K mainGlobals "LONGEST_NAME" = some (some (.int 8 t_LONGEST_NAME)))
    {t_MOST_ARGUMENTS : Tok} (g_MOST_ARGUMENTS : PySem.W.nsIn K mainGlobals "MOST_ARGUMENTS" = some (some (.int 4 t_MOST_ARGUMENTS)))
    {t_MOST_SIZE : Tok} (g_MOST_SIZE : PySem.W.nsIn K mainGlobals "MOST_SIZE" = some (some (.int 2000 t_MOST_SIZE)))
    {t_MOST_VARIABLES : Tok} (g_MOST_VARIABLES : PySem.W.nsIn K mainGlobals "MOST_VARIABLES" = some (some (.int 4000 t_MOST_VARIABLES)))
    {p_OPS : Addr} {y_OPS : Option Addr} {its_OPS : Array Value} {n_OPS : Nat} {sl_OPS : Array (Option Value)} (g_OPS : PySem.W.nsIn K mainGlobals "OPS" = some (some (.ref p_OPS))) (h_OPS : K.lookup p_OPS = some ⟨.type "tuple", y_OPS, .seq its_OPS n_OPS, sl_OPS⟩) (s_OPS : its_OPS.size ≤ sizeLine) (r_OPS : ScsR c_OPS its_OPS.toList)
    {p_PARTS : Addr} {es_PARTS : Array DictEntry} {n_PARTS : Nat} (g_PARTS : PySem.W.nsIn K mainGlobals "PARTS" = some (some (.ref p_PARTS))) (h_PARTS : K.lookup p_PARTS = some ⟨.type "dict", none, .dict es_PARTS n_PARTS, #[]⟩) (s_PARTS : PySem.W.KeysLit w.params es_PARTS.toList) (o_PARTS : (p_PARTS == sysModules) = false) (r_PARTS : EntsR es_PARTS.toList c_PARTS) :
    ∃ fd : FuncData, (∀ (s : Shared) (v : Value), BindsTo s fd ⟨[v], []⟩ [("script", v)]) ∧ ∀ base : Heap, K.In base → base.Ns mainGlobals mg → FnOk l.prog w K mg base CX0 9 fa fd ["script"] (spT K sp_law) := by
  have e := hfa.symm.trans (PySem.W.mg_of X G a36)
  cases e
  have Tx : Txt K w mg := { z_all := PySem.W.mg_none_of X G z_all, z_bool := PySem.W.mg_none_of X G z_bool, z_enumerate := PySem.W.mg_none_of X G z_enumerate, z_int := PySem.W.mg_none_of X G z_int, z_isinstance := PySem.W.mg_none_of X G z_isinstance, z_len := PySem.W.mg_none_of X G z_len, z_list := PySem.W.mg_none_of X G z_list, z_max := PySem.W.mg_none_of X G z_max, z_range := PySem.W.mg_none_of X G z_range, z_sorted := PySem.W.mg_none_of X G z_sorted, z_str := PySem.W.mg_none_of X G z_str, z_sum := PySem.W.mg_none_of X G z_sum, z_tuple := PySem.W.mg_none_of X G z_tuple, z_zip := PySem.W.mg_none_of X G z_zip, g_END_PARTS := ⟨_, _, _, PySem.W.mg_of X G g_END_PARTS, h_END_PARTS, s_END_PARTS, o_END_PARTS, r_END_PARTS⟩, g_GREATEST_WORD := ⟨_, PySem.W.mg_of X G g_GREATEST_WORD⟩, g_LETTERS := ⟨_, PySem.W.mg_of X G g_LETTERS⟩, g_LONGEST_NAME := ⟨_, PySem.W.mg_of X G g_LONGEST_NAME⟩, g_MOST_ARGUMENTS := ⟨_, PySem.W.mg_of X G g_MOST_ARGUMENTS⟩, g_MOST_SIZE := ⟨_, PySem.W.mg_of X G g_MOST_SIZE⟩, g_MOST_VARIABLES := ⟨_, PySem.W.mg_of X G g_MOST_VARIABLES⟩, g_OPS := ⟨_, _, _, _, PySem.W.mg_of X G g_OPS, h_OPS, rfl, rfl, s_OPS, r_OPS⟩, g_PARTS := ⟨_, _, _, PySem.W.mg_of X G g_PARTS, h_PARTS, s_PARTS, o_PARTS, r_PARTS⟩ }
  have F0 := fun_mk (st := s_size_of) l0 c0 k0
  have b0 := F0.binds (ps := ["graph"]) fun _ _ _ _ _ _ us hl => match us, hl with | [_], _ => rfl
  have F1 := fun_mk (st := s_is_integer) l1 c1 k1
  have b1 := F1.binds (ps := ["thing"]) fun _ _ _ _ _ _ us hl => match us, hl with | [_], _ => rfl
  have F2 := fun_mk (st := s_is_word) l2 c2 k2
  have b2 := F2.binds (ps := ["thing"]) fun _ _ _ _ _ _ us hl => match us, hl with | [_], _ => rfl
  have F3 := fun_mk (st := s_is_name) l3 c3 k3
  have b3 := F3.binds (ps := ["thing"]) fun _ _ _ _ _ _ us hl => match us, hl with | [_], _ => rfl
  have F4 := fun_mk (st := s_is_full_name) l4 c4 k4
  have b4 := F4.binds (ps := ["thing"]) fun _ _ _ _ _ _ us hl => match us, hl with | [_], _ => rfl
  have F5 := fun_mk (st := s_is_function_value) l5 c5 k5
  have b5 := F5.binds (ps := ["thing"]) fun _ _ _ _ _ _ us hl => match us, hl with | [_], _ => rfl
  have F6 := fun_mk (st := s_is_value) l6 c6 k6
  have b6 := F6.binds (ps := ["thing"]) fun _ _ _ _ _ _ us hl => match us, hl with | [_], _ => rfl
  have F7 := fun_mk (st := s_is_variable) l7 c7 k7
  have b7 := F7.binds (ps := ["thing"]) fun _ _ _ _ _ _ us hl => match us, hl with | [_], _ => rfl
  have F8 := fun_mk (st := s_is_operand) l8 c8 k8
  have b8 := F8.binds (ps := ["thing"]) fun _ _ _ _ _ _ us hl => match us, hl with | [_], _ => rfl
  have F9 := fun_mk (st := s_are_operands) l9 c9 k9
  have b9 := F9.binds (ps := ["thing"]) fun _ _ _ _ _ _ us hl => match us, hl with | [_], _ => rfl
  have F10 := fun_mk (st := s_has_word) l10 c10 k10
  have b10 := F10.binds (ps := ["thing", "is_end"]) fun _ _ _ _ _ _ us hl => match us, hl with | [_, _], _ => rfl
  have F11 := fun_mk (st := s_is_instruction) l11 c11 k11
  have b11 := F11.binds (ps := ["thing"]) fun _ _ _ _ _ _ us hl => match us, hl with | [_], _ => rfl
  have F12 := fun_mk (st := s_is_block_number) l12 c12 k12
  have b12 := F12.binds (ps := ["thing", "count"]) fun _ _ _ _ _ _ us hl => match us, hl with | [_, _], _ => rfl
  have F13 := fun_mk (st := s_is_terminator) l13 c13 k13
  have b13 := F13.binds (ps := ["thing", "count"]) fun _ _ _ _ _ _ us hl => match us, hl with | [_, _], _ => rfl
  have F14 := fun_mk (st := s_is_block) l14 c14 k14
  have b14 := F14.binds (ps := ["thing", "count"]) fun _ _ _ _ _ _ us hl => match us, hl with | [_, _], _ => rfl
  have F15 := fun_mk (st := s_is_graph_value) l15 c15 k15
  have b15 := F15.binds (ps := ["thing"]) fun _ _ _ _ _ _ us hl => match us, hl with | [_], _ => rfl
  have F16 := fun_mk (st := s_is_graph) l16 c16 k16
  have b16 := F16.binds (ps := ["thing"]) fun _ _ _ _ _ _ us hl => match us, hl with | [_], _ => rfl
  have F17 := fun_mk (st := s_law_deck) l17 c17 k17
  have b17 := F17.binds (ps := ["script"]) fun _ _ _ _ _ _ us hl => match us, hl with | [_], _ => rfl
  have F18 := fun_mk (st := s_law_draw) l18 c18 k18
  have b18 := F18.binds (ps := ["deck", "many"]) fun _ _ _ _ _ _ us hl => match us, hl with | [_, _], _ => rfl
  have F19 := fun_mk (st := s_law_pick) l19 c19 k19
  have b19 := F19.binds (ps := ["deck", "some"]) fun _ _ _ _ _ _ us hl => match us, hl with | [_, _], _ => rfl
  have F20 := fun_mk (st := s_law_shuffled) l20 c20 k20
  have b20 := F20.binds (ps := ["deck", "some"]) fun _ _ _ _ _ _ us hl => match us, hl with | [_, _], _ => rfl
  have F21 := fun_mk (st := s_law_is_whole) l21 c21 k21
  have b21 := F21.binds (ps := ["thing", "many"]) fun _ _ _ _ _ _ us hl => match us, hl with | [_, _], _ => rfl
  have F22 := fun_mk (st := s_law_is_full_name) l22 c22 k22
  have b22 := F22.binds (ps := ["thing"]) fun _ _ _ _ _ _ us hl => match us, hl with | [_], _ => rfl
  have F23 := fun_mk (st := s_law_is_operand) l23 c23 k23
  have b23 := F23.binds (ps := ["thing"]) fun _ _ _ _ _ _ us hl => match us, hl with | [_], _ => rfl
  have F24 := fun_mk (st := s_law_is_part) l24 c24 k24
  have b24 := F24.binds (ps := ["kind", "thing", "blocks"]) fun _ _ _ _ _ _ us hl => match us, hl with | [_, _, _], _ => rfl
  have F25 := fun_mk (st := s_law_forms) l25 c25 k25
  have b25 := F25.binds (ps := []) fun _ _ _ _ _ _ us hl => match us, hl with | [], _ => rfl
  have F26 := fun_mk (st := s_law_is_built) l26 c26 k26
  have b26 := F26.binds (ps := ["forms", "thing", "blocks"]) fun _ _ _ _ _ _ us hl => match us, hl with | [_, _, _], _ => rfl
  have F27 := fun_mk (st := s_law_is_graph) l27 c27 k27
  have b27 := F27.binds (ps := ["thing"]) fun _ _ _ _ _ _ us hl => match us, hl with | [_], _ => rfl
  have F28 := fun_mk (st := s_law_wrongs) l28 c28 k28
  have b28 := F28.binds (ps := []) fun _ _ _ _ _ _ us hl => match us, hl with | [], _ => rfl
  have F29 := fun_mk (st := s_law_right) l29 c29 k29
  have b29 := F29.binds (ps := ["deck", "kind", "blocks"]) fun _ _ _ _ _ _ us hl => match us, hl with | [_, _, _], _ => rfl
  have F30 := fun_mk (st := s_law_built) l30 c30 k30
  have b30 := F30.binds (ps := ["deck", "forms", "blocks"]) fun _ _ _ _ _ _ us hl => match us, hl with | [_, _, _], _ => rfl
  have F31 := fun_mk (st := s_law_graph) l31 c31 k31
  have b31 := F31.binds (ps := ["deck"]) fun _ _ _ _ _ _ us hl => match us, hl with | [_], _ => rfl
  have F32 := fun_mk (st := s_law_put) l32 c32 k32
  have b32 := F32.binds (ps := ["graph", "at", "block"]) fun _ _ _ _ _ _ us hl => match us, hl with | [_, _, _], _ => rfl
  have F33 := fun_mk (st := s_law_near_rows) l33 c33 k33
  have b33 := F33.binds (ps := ["deck", "forms", "row", "blocks"]) fun _ _ _ _ _ _ us hl => match us, hl with | [_, _, _, _], _ => rfl
  have F34 := fun_mk (st := s_law_near_graphs) l34 c34 k34
  have b34 := F34.binds (ps := ["deck", "graph"]) fun _ _ _ _ _ _ us hl => match us, hl with | [_, _], _ => rfl
  have F35 := fun_mk (st := s_law_great) l35 c35 k35
  have b35 := F35.binds (ps := ["deck"]) fun _ _ _ _ _ _ us hl => match us, hl with | [_], _ => rfl
  have F36 := fun_mk (st := s_law) l36 c36 k36
  refine ⟨PySem.W.fnOf "law" "law" (defArgs s_law) (defBody s_law) (defScope s_law) .none kV36 dc36 pm36 an36 cd36 ct36, fun s v => .of_eq rfl, fun base _ _ => ?_⟩
  have D_size_of : Def l.prog w K mg base "size_of" ["graph"] 1 sp_size_of := ⟨_, _, fk_size_of F0 Tx , PySem.W.mg_of X G a0, k0, b0⟩
  have D_is_integer : Def l.prog w K mg base "is_integer" ["thing"] 1 sp_is_integer := ⟨_, _, fk_is_integer F1 Tx , PySem.W.mg_of X G a1, k1, b1⟩
  have D_is_name : Def l.prog w K mg base "is_name" ["thing"] 1 sp_is_name := ⟨_, _, fk_is_name F3 Tx , PySem.W.mg_of X G a3, k3, b3⟩
  have D_has_word : Def l.prog w K mg base "has_word" ["thing", "is_end"] 1 sp_has_word := ⟨_, _, fk_has_word F10 Tx , PySem.W.mg_of X G a10, k10, b10⟩
  have D_law_deck : Def l.prog w K mg base "_law_deck" ["script"] 1 sp_law_deck := ⟨_, _, fk_law_deck F17 Tx , PySem.W.mg_of X G a17, k17, b17⟩
  have D_law_draw : Def l.prog w K mg base "_law_draw" ["deck", "many"] 1 sp_law_draw := ⟨_, _, fk_law_draw F18 Tx , PySem.W.mg_of X G a18, k18, b18⟩
  have D_law_is_whole : Def l.prog w K mg base "_law_is_whole" ["thing", "many"] 1 sp_law_is_whole := ⟨_, _, fk_law_is_whole F21 Tx , PySem.W.mg_of X G a21, k21, b21⟩
  have D_law_is_full_name : Def l.prog w K mg base "_law_is_full_name" ["thing"] 1 sp_law_is_full_name := ⟨_, _, fk_law_is_full_name F22 Tx , PySem.W.mg_of X G a22, k22, b22⟩
  have D_law_forms : Def l.prog w K mg base "_law_forms" [] 1 sp_law_forms := ⟨_, _, fk_law_forms F25 Tx , PySem.W.mg_of X G a25, k25, b25⟩
  have D_law_wrongs : Def l.prog w K mg base "_law_wrongs" [] 1 sp_law_wrongs := ⟨_, _, fk_law_wrongs F28 Tx , PySem.W.mg_of X G a28, k28, b28⟩
  have D_law_put : Def l.prog w K mg base "_law_put" ["graph", "at", "block"] 1 sp_law_put := ⟨_, _, fk_law_put F32 Tx , PySem.W.mg_of X G a32, k32, b32⟩
  have D_is_word : Def l.prog w K mg base "is_word" ["thing"] 2 sp_is_word := ⟨_, _, fk_is_word F2 Tx D_is_integer, PySem.W.mg_of X G a2, k2, b2⟩
  have D_is_full_name : Def l.prog w K mg base "is_full_name" ["thing"] 2 sp_is_full_name := ⟨_, _, fk_is_full_name F4 Tx D_is_name, PySem.W.mg_of X G a4, k4, b4⟩
  have D_is_variable : Def l.prog w K mg base "is_variable" ["thing"] 2 sp_is_variable := ⟨_, _, fk_is_variable F7 Tx D_is_integer, PySem.W.mg_of X G a7, k7, b7⟩
  have D_is_block_number : Def l.prog w K mg base "is_block_number" ["thing", "count"] 2 sp_is_block_number := ⟨_, _, fk_is_block_number F12 Tx D_is_integer, PySem.W.mg_of X G a12, k12, b12⟩
  have D_law_pick : Def l.prog w K mg base "_law_pick" ["deck", "some"] 2 sp_law_pick := ⟨_, _, fk_law_pick F19 Tx D_law_draw, PySem.W.mg_of X G a19, k19, b19⟩
  have D_law_shuffled : Def l.prog w K mg base "_law_shuffled" ["deck", "some"] 2 sp_law_shuffled := ⟨_, _, fk_law_shuffled F20 Tx D_law_draw, PySem.W.mg_of X G a20, k20, b20⟩
  have D_law_is_operand : Def l.prog w K mg base "_law_is_operand" ["thing"] 2 sp_law_is_operand := ⟨_, _, fk_law_is_operand F23 Tx D_law_is_whole, PySem.W.mg_of X G a23, k23, b23⟩
  have D_law_near_graphs : Def l.prog w K mg base "_law_near_graphs" ["deck", "graph"] 2 sp_law_near_graphs := ⟨_, _, fk_law_near_graphs F34 Tx D_law_draw D_law_put, PySem.W.mg_of X G a34, k34, b34⟩
  have D_law_great : Def l.prog w K mg base "_law_great" ["deck"] 2 sp_law_great := ⟨_, _, fk_law_great F35 Tx D_law_draw, PySem.W.mg_of X G a35, k35, b35⟩
  have D_is_function_value : Def l.prog w K mg base "is_function_value" ["thing"] 3 sp_is_function_value := ⟨_, _, fk_is_function_value F5 Tx D_is_full_name, PySem.W.mg_of X G a5, k5, b5⟩
  have D_is_operand : Def l.prog w K mg base "is_operand" ["thing"] 3 sp_is_operand := ⟨_, _, fk_is_operand F8 Tx D_is_variable D_is_word, PySem.W.mg_of X G a8, k8, b8⟩
  have D_law_is_part : Def l.prog w K mg base "_law_is_part" ["kind", "thing", "blocks"] 3 sp_law_is_part := ⟨_, _, fk_law_is_part F24 Tx D_law_is_full_name D_law_is_operand D_law_is_whole, PySem.W.mg_of X G a24, k24, b24⟩
  have D_is_value : Def l.prog w K mg base "is_value" ["thing"] 4 sp_is_value := ⟨_, _, fk_is_value F6 Tx D_is_function_value D_is_word, PySem.W.mg_of X G a6, k6, b6⟩
  have D_are_operands : Def l.prog w K mg base "are_operands" ["thing"] 4 sp_are_operands := ⟨_, _, fk_are_operands F9 Tx D_is_operand, PySem.W.mg_of X G a9, k9, b9⟩
  have D_is_terminator : Def l.prog w K mg base "is_terminator" ["thing", "count"] 4 sp_is_terminator := ⟨_, _, fk_is_terminator F13 Tx D_has_word D_is_block_number D_is_operand D_is_word, PySem.W.mg_of X G a13, k13, b13⟩
  have D_law_is_built : Def l.prog w K mg base "_law_is_built" ["forms", "thing", "blocks"] 4 sp_law_is_built := ⟨_, _, fk_law_is_built F26 Tx D_law_is_part, PySem.W.mg_of X G a26, k26, b26⟩
  have Z_law_right : Def l.prog w K mg base "_law_right" ["deck", "kind", "blocks"] 1 (fun _ _ _ => False) := ⟨_, _, fk0_law_right F29, PySem.W.mg_of X G a29, k29, b29⟩
  have Y_law_right : Def l.prog w K mg base "_law_right" ["deck", "kind", "blocks"] 3 sp_right_a := ⟨_, _, fk1_law_right F29 Tx D_law_draw D_law_pick Z_law_right, PySem.W.mg_of X G a29, k29, b29⟩
  have D_law_right : Def l.prog w K mg base "_law_right" ["deck", "kind", "blocks"] 4 sp_law_right := ⟨_, _, fk_law_right F29 Tx D_law_draw D_law_pick Y_law_right, PySem.W.mg_of X G a29, k29, b29⟩
  have D_is_instruction : Def l.prog w K mg base "is_instruction" ["thing"] 5 sp_is_instruction := ⟨_, _, fk_is_instruction F11 Tx D_are_operands D_has_word D_is_full_name D_is_operand D_is_value D_is_variable, PySem.W.mg_of X G a11, k11, b11⟩
  have D_law_is_graph : Def l.prog w K mg base "_law_is_graph" ["thing"] 5 sp_law_is_graph := ⟨_, _, fk_law_is_graph F27 Tx D_law_forms D_law_is_built D_law_is_whole, PySem.W.mg_of X G a27, k27, b27⟩
  have D_law_built : Def l.prog w K mg base "_law_built" ["deck", "forms", "blocks"] 5 sp_law_built := ⟨_, _, fk_law_built F30 Tx D_law_pick D_law_right, PySem.W.mg_of X G a30, k30, b30⟩
  have D_law_near_rows : Def l.prog w K mg base "_law_near_rows" ["deck", "forms", "row", "blocks"] 5 sp_law_near_rows := ⟨_, _, fk_law_near_rows F33 Tx D_law_pick D_law_right D_law_shuffled D_law_wrongs, PySem.W.mg_of X G a33, k33, b33⟩
  have D_is_block : Def l.prog w K mg base "is_block" ["thing", "count"] 6 sp_is_block := ⟨_, _, fk_is_block F14 Tx D_is_instruction D_is_terminator, PySem.W.mg_of X G a14, k14, b14⟩
  have D_law_graph : Def l.prog w K mg base "_law_graph" ["deck"] 6 sp_law_graph := ⟨_, _, fk_law_graph F31 Tx D_law_built D_law_draw D_law_forms, PySem.W.mg_of X G a31, k31, b31⟩
  have D_is_graph_value : Def l.prog w K mg base "is_graph_value" ["thing"] 7 sp_is_graph_value := ⟨_, _, fk_is_graph_value F15 Tx D_is_block D_is_integer D_size_of, PySem.W.mg_of X G a15, k15, b15⟩
  have D_is_graph : Def l.prog w K mg base "is_graph" ["thing"] 8 sp_is_graph := ⟨_, _, fk_is_graph F16 Tx D_is_graph_value, PySem.W.mg_of X G a16, k16, b16⟩
  have K_is_graph : DefK l.prog w K mg base "is_graph" ["thing"] ["thing"] [0] 8 sp_is_graph := ⟨_, _, fk_is_graph F16 Tx D_is_graph_value, PySem.W.mg_of X G a16, k16, fun s ws hl => match ws, hl with | [_], _ => .of_eq rfl⟩
  exact fk_law F36 Tx D_law_deck D_law_draw D_law_forms D_law_graph D_law_great D_law_is_graph D_law_near_graphs D_law_near_rows D_law_pick D_law_put D_law_right D_law_shuffled D_is_graph K_is_graph
theorem start_arg {K : PySem.W.Frag} {H : Hp} {a : Addr} {ns : List Int} {E : XK} (hl : ns.length ≤ 63) (hS : SqL K H a (ns.map V.int)) : spT K sp_law [.ref a] H (fun v _ => v = .bl true) E := by
  have hsl := sizeLine_eq
  refine ⟨fun _ => none, [.arg ns], fun _ => none, fun t _ => t = .bl true, .cons (.arg ?_ (by omega)) .nil, ⟨fun a c h => by (cases h), fun a c h => by (cases h)⟩, ⟨ns, rfl, fun S' => rfl⟩, fun t S' v H' _ _ r h => ?_⟩
  · rcases hS with h | h
    · exact .inl ⟨h, rfl⟩
    · exact .inr h
  · subst h
    cases r
    rfl
theorem walk {l : PySem.W.OpenLaw} {q : Program} {loose : List Str} {XP : (Str → Option Value) → Heap → Prop} {YP : World → Heap → Prop} {d : DefRec} {K : Params → PySem.W.Frag} (hn : l.most = some 63) (hdf : d.params.defaults = [])
    (hY : ∀ (w : World) (h : Heap), YP w h → (K w.params).In h)
    (F : ∀ (w : World) (mg : Str → Option Value) (fa : Addr) (h : Heap), (K w.params).In h → h.Ns mainGlobals mg → mg d.name = some (.ref fa) →
      ∃ fd : FuncData, (∀ (s : Shared) (u : Value), BindsTo s fd ⟨[u], []⟩ [("script", u)]) ∧ ∀ base : Heap, (K w.params).In base → base.Ns mainGlobals mg → FnOk l.prog w (K w.params) mg base CX0 9 fa fd ["script"] (spT (K w.params) sp_law)) :
    PySem.W.WalkO q loose XP YP l.row.toRowW d [] (fun f vs => PySem.call f vs) :=
  L2.walk_of (n := 63) (k := 9) (x := "script") (CX := fun _ => CX0) (sp := fun w => spT (K w.params) sp_law) hn (by decide) hdf ⟨rfl, by decide, by decide⟩ hY F (fun _ _ a ns hl _ hS => start_arg hl hS) fun _ _ _ _ _ z => z
end TL.K

set_option Elab.async false
open PySem PySem.W PyProof.Rows
set_option maxRecDepth 100000 in
set_option maxHeartbeats 0 in
theorem PySem.Challenge.cw_foldapart_k43_what_has_the_form_of_a_gra_holds : PySem.Challenge.rw_foldapart_k43_what_has_the_form_of_a_gra.Holds := by
  w_on; o_law; k_head; (case hw => w_witness2)
  k_fill
  refine TL.K.walk (l := PySem.Challenge.rw_foldapart_k43_what_has_the_form_of_a_gra) rfl rfl (fun w h Y => PySem.W.kIn_of Y) ?F
  case F =>
    intro w mg fa h KX G hmg
    refine' TL.K.all_mk KX G hmg ?a0 ?l0 ?c0 ?k0 ?a1 ?l1 ?c1 ?k1 ?a2 ?l2 ?c2 ?k2 ?a3 ?l3 ?c3 ?k3 ?a4 ?l4 ?c4 ?k4 ?a5 ?l5 ?c5 ?k5 ?a6 ?l6 ?c6 ?k6 ?a7 ?l7 ?c7 ?k7 ?a8 ?l8 ?c8 ?k8 ?a9 ?l9 ?c9 ?k9 ?a10 ?l10 ?c10 ?k10 ?a11 ?l11 ?c11 ?k11 ?a12 ?l12 ?c12 ?k12 ?a13 ?l13 ?c13 ?k13 ?a14 ?l14 ?c14 ?k14 ?a15 ?l15 ?c15 ?k15 ?a16 ?l16 ?c16 ?k16 ?a17 ?l17 ?c17 ?k17 ?a18 ?l18 ?c18 ?k18 ?a19 ?l19 ?c19 ?k19 ?a20 ?l20 ?c20 ?k20 ?a21 ?l21 ?c21 ?k21 ?a22 ?l22 ?c22 ?k22 ?a23 ?l23 ?c23 ?k23 ?a24 ?l24 ?c24 ?k24 ?a25 ?l25 ?c25 ?k25 ?a26 ?l26 ?c26 ?k26 ?a27 ?l27 ?c27 ?k27 ?a28 ?l28 ?c28 ?k28 ?a29 ?l29 ?c29 ?k29 ?a30 ?l30 ?c30 ?k30 ?a31 ?l31 ?c31 ?k31 ?a32 ?l32 ?c32 ?k32 ?a33 ?l33 ?c33 ?k33 ?a34 ?l34 ?c34 ?k34 ?a35 ?l35 ?c35 ?k35 ?a36 ?l36 ?c36 ?k36 ?z_all ?z_bool ?z_enumerate ?z_int ?z_isinstance ?z_len ?z_list ?z_max ?z_range ?z_sorted ?z_str ?z_sum ?z_tuple ?z_zip ?g_END_PARTS ?h_END_PARTS ?s_END_PARTS ?o_END_PARTS ?r_END_PARTS ?g_GREATEST_WORD ?g_LETTERS ?g_LONGEST_NAME ?g_MOST_ARGUMENTS ?g_MOST_SIZE ?g_MOST_VARIABLES ?g_OPS ?h_OPS ?s_OPS ?r_OPS ?g_PARTS ?h_PARTS ?s_PARTS ?o_PARTS ?r_PARTS
    (case a0 => k_is)
    (case l0 => k_is)
    (case c0 => k_is)
    (case k0 => k_is)
    (case a1 => k_is)
    (case l1 => k_is)
    (case c1 => k_is)
    (case k1 => k_is)
    (case a2 => k_is)
    (case l2 => k_is)
    (case c2 => k_is)
    (case k2 => k_is)
    (case a3 => k_is)
    (case l3 => k_is)
    (case c3 => k_is)
    (case k3 => k_is)
    (case a4 => k_is)
    (case l4 => k_is)
    (case c4 => k_is)
    (case k4 => k_is)
    (case a5 => k_is)
    (case l5 => k_is)
    (case c5 => k_is)
    (case k5 => k_is)
    (case a6 => k_is)
    (case l6 => k_is)
    (case c6 => k_is)
    (case k6 => k_is)
    (case a7 => k_is)
    (case l7 => k_is)
    (case c7 => k_is)
    (case k7 => k_is)
    (case a8 => k_is)
    (case l8 => k_is)
    (case c8 => k_is)
    (case k8 => k_is)
    (case a9 => k_is)
    (case l9 => k_is)
    (case c9 => k_is)
    (case k9 => k_is)
    (case a10 => k_is)
    (case l10 => k_is)
    (case c10 => k_is)
    (case k10 => k_is)
    (case a11 => k_is)
    (case l11 => k_is)
    (case c11 => k_is)
    (case k11 => k_is)
    (case a12 => k_is)
    (case l12 => k_is)
    (case c12 => k_is)
    (case k12 => k_is)
    (case a13 => k_is)
    (case l13 => k_is)
    (case c13 => k_is)
    (case k13 => k_is)
    (case a14 => k_is)
    (case l14 => k_is)
    (case c14 => k_is)
    (case k14 => k_is)
    (case a15 => k_is)
    (case l15 => k_is)
    (case c15 => k_is)
    (case k15 => k_is)
    (case a16 => k_is)
    (case l16 => k_is)
    (case c16 => k_is)
    (case k16 => k_is)
    (case a17 => k_is)
    (case l17 => k_is)
    (case c17 => k_is)
    (case k17 => k_is)
    (case a18 => k_is)
    (case l18 => k_is)
    (case c18 => k_is)
    (case k18 => k_is)
    (case a19 => k_is)
    (case l19 => k_is)
    (case c19 => k_is)
    (case k19 => k_is)
    (case a20 => k_is)
    (case l20 => k_is)
    (case c20 => k_is)
    (case k20 => k_is)
    (case a21 => k_is)
    (case l21 => k_is)
    (case c21 => k_is)
    (case k21 => k_is)
    (case a22 => k_is)
    (case l22 => k_is)
    (case c22 => k_is)
    (case k22 => k_is)
    (case a23 => k_is)
    (case l23 => k_is)
    (case c23 => k_is)
    (case k23 => k_is)
    (case a24 => k_is)
    (case l24 => k_is)
    (case c24 => k_is)
    (case k24 => k_is)
    (case a25 => k_is)
    (case l25 => k_is)
    (case c25 => k_is)
    (case k25 => k_is)
    (case a26 => k_is)
    (case l26 => k_is)
    (case c26 => k_is)
    (case k26 => k_is)
    (case a27 => k_is)
    (case l27 => k_is)
    (case c27 => k_is)
    (case k27 => k_is)
    (case a28 => k_is)
    (case l28 => k_is)
    (case c28 => k_is)
    (case k28 => k_is)
    (case a29 => k_is)
    (case l29 => k_is)
    (case c29 => k_is)
    (case k29 => k_is)
    (case a30 => k_is)
    (case l30 => k_is)
    (case c30 => k_is)
    (case k30 => k_is)
    (case a31 => k_is)
    (case l31 => k_is)
    (case c31 => k_is)
    (case k31 => k_is)
    (case a32 => k_is)
    (case l32 => k_is)
    (case c32 => k_is)
    (case k32 => k_is)
    (case a33 => k_is)
    (case l33 => k_is)
    (case c33 => k_is)
    (case k33 => k_is)
    (case a34 => k_is)
    (case l34 => k_is)
    (case c34 => k_is)
    (case k34 => k_is)
    (case a35 => k_is)
    (case l35 => k_is)
    (case c35 => k_is)
    (case k35 => k_is)
    (case a36 => k_is)
    (case l36 => k_is)
    (case c36 => k_is)
    (case k36 => k_is)
    (case z_all => k_is)
    (case z_bool => k_is)
    (case z_enumerate => k_is)
    (case z_int => k_is)
    (case z_isinstance => k_is)
    (case z_len => k_is)
    (case z_list => k_is)
    (case z_max => k_is)
    (case z_range => k_is)
    (case z_sorted => k_is)
    (case z_str => k_is)
    (case z_sum => k_is)
    (case z_tuple => k_is)
    (case z_zip => k_is)
    (case g_END_PARTS => k_is)
    (case h_END_PARTS => k_is)
    (case s_END_PARTS => exact ⟨⟨_, _, rfl, rfl⟩, ⟨⟨_, _, rfl, rfl⟩, ⟨⟨_, _, rfl, rfl⟩, ⟨⟨_, _, rfl, rfl⟩, trivial⟩⟩⟩⟩)
    (case o_END_PARTS => rfl)
    (case r_END_PARTS => exact ⟨⟨⟨_, rfl⟩, _, rfl, _, rfl⟩, ⟨⟨⟨_, rfl⟩, _, rfl, _, rfl⟩, ⟨⟨⟨_, rfl⟩, _, rfl, _, rfl⟩, ⟨⟨⟨_, rfl⟩, _, rfl, _, rfl⟩, trivial⟩⟩⟩⟩)
    (case g_GREATEST_WORD => k_is)
    (case g_LETTERS => k_is)
    (case g_LONGEST_NAME => k_is)
    (case g_MOST_ARGUMENTS => k_is)
    (case g_MOST_SIZE => k_is)
    (case g_MOST_VARIABLES => k_is)
    (case g_OPS => k_is)
    (case h_OPS => k_is)
    (case s_OPS => rw [sizeLine_eq]; decide)
    (case r_OPS => exact ⟨⟨_, rfl, _, rfl⟩, ⟨⟨_, rfl, _, rfl⟩, ⟨⟨_, rfl, _, rfl⟩, ⟨⟨_, rfl, _, rfl⟩, ⟨⟨_, rfl, _, rfl⟩, ⟨⟨_, rfl, _, rfl⟩, ⟨⟨_, rfl, _, rfl⟩, ⟨⟨_, rfl, _, rfl⟩, trivial⟩⟩⟩⟩⟩⟩⟩⟩)
    (case g_PARTS => k_is)
    (case h_PARTS => k_is)
    (case s_PARTS => exact ⟨⟨_, _, rfl, rfl⟩, ⟨⟨_, _, rfl, rfl⟩, ⟨⟨_, _, rfl, rfl⟩, ⟨⟨_, _, rfl, rfl⟩, ⟨⟨_, _, rfl, rfl⟩, ⟨⟨_, _, rfl, rfl⟩, ⟨⟨_, _, rfl, rfl⟩, ⟨⟨_, _, rfl, rfl⟩, ⟨⟨_, _, rfl, rfl⟩, ⟨⟨_, _, rfl, rfl⟩, trivial⟩⟩⟩⟩⟩⟩⟩⟩⟩⟩)
    (case o_PARTS => rfl)
    (case r_PARTS => exact ⟨⟨⟨_, rfl⟩, _, rfl, _, rfl⟩, ⟨⟨⟨_, rfl⟩, _, rfl, _, rfl⟩, ⟨⟨⟨_, rfl⟩, _, rfl, _, rfl⟩, ⟨⟨⟨_, rfl⟩, _, rfl, _, rfl⟩, ⟨⟨⟨_, rfl⟩, _, rfl, _, rfl⟩, ⟨⟨⟨_, rfl⟩, _, rfl, _, rfl⟩, ⟨⟨⟨_, rfl⟩, _, rfl, _, rfl⟩, ⟨⟨⟨_, rfl⟩, _, rfl, _, rfl⟩, ⟨⟨⟨_, rfl⟩, _, rfl, _, rfl⟩, ⟨⟨⟨_, rfl⟩, _, rfl, _, rfl⟩, trivial⟩⟩⟩⟩⟩⟩⟩⟩⟩⟩)
