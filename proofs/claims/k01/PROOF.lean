import PyProof.Rows.All
import HandS.ForMost
import HandS.ForExc
import HandS.Wide
import HandS.IsInst
import HandS.HotCalls
import HandS.Style
import HandS.Flow
import HandS.TupAny
import HandS.TupMul
import HandS.WideMore
import HandS.SetFor
import KE.KExcIs
import HandS.HeadHook2
import HandS.HeadEnd
import HandS.Defaults
import HandS.Head0
import HandS.Head1
import HandS.Head2
import PySem.Challenge.RW_vatmatch_k01_fractions_reckoned
set_option Elab.async false
set_option linter.all false
set_option maxRecDepth 100000
set_option maxHeartbeats 8000000
/-! VmA: plain data D in the place of values, a plain store in the place of the heap; what ties them to the hand layer's V and Hp; rules over them. -/
namespace Vm
open PySem PySem.Spec PyProof.Rows L2
abbrev St := L2.St

/-- built-in classes -/
inductive Bt where
  | int | bool | str | tuple | list | dict | set
  deriving DecidableEq
def Bt.name : Bt → String
  | .int => "int" | .bool => "bool" | .str => "str" | .tuple => "tuple" | .list => "list" | .dict => "dict" | .set => "set"

/-- plain data: a tuple is its items; what may change is known by its address -/
inductive D where
  | non | bl (b : Bool) | int (i : Int) | str (x : Str)
  | tup (xs : List D)
  | ref (a : Addr) | ty (n : Bt)
  /-- a class of the program, by its name -/
  | cls (x : Str)
  /-- the exception that is handled (in a slot alone): its class by its name, its fields -/
  | exn (c : Str) (fs : List (Str × D))

/-- what stands at an address -/
inductive MO where
  | lst (ds : List D)
  | scr (ds : List D)
  | dK (kvs : List (Key × D))
  | dT (kvs : List (List Key × D))
  | ins (C : Addr) (fs : List (Str × D))
abbrev Sto := Addr → Option MO
def put (S : Sto) (a : Addr) (o : MO) : Sto := fun b => if b = a then some o else S b
theorem put_same {S : Sto} {a : Addr} {o : MO} : put S a o a = some o := by unfold put; rw [if_pos rfl]
theorem put_ne {S : Sto} {a b : Addr} {o : MO} (h : b ≠ a) : put S a o b = S b := by unfold put; rw [if_neg h]
theorem put_put {S : Sto} {a : Addr} {o u : MO} : put (put S a o) a u = put S a u := by
  funext b; unfold put; split <;> rfl
theorem ne_new {S : Sto} {a b : Addr} {o : MO} (h : S a = some o) (h' : S b = none) : a ≠ b := by
  intro e; subst e; rw [h] at h'; cases h'

/-- the value that the data is, over the heap -/
inductive RV (K : PySem.W.Frag) (H : Hp) : V → D → Prop
  | non : RV K H .non .non
  | bl {b} : RV K H (.bl b) (.bl b)
  | int {i} : RV K H (.int i) (.int i)
  | str {x} : RV K H (.str x) (.str x)
  | ref {a} : RV K H (.ref a) (.ref a)
  | ty {n : Bt} : RV K H (.ty n.name) (.ty n)
  | cls {x C} : PySem.W.nsIn K mainGlobals x = some (some (.ref C)) → RV K H (.ref C) (.cls x)
  | tup {a vs ds} : SqT K H a vs → Paired (RV K H) vs ds → RV K H (.ref a) (.tup ds)
abbrev RVs (K : PySem.W.Frag) (H : Hp) : List V → List D → Prop := Paired (RV K H)

/-- tuples and frozen things stay -/
structure TK (H H' : Hp) : Prop where
  t : ∀ b xs, H b = some (.tup xs) → H' b = some (.tup xs)
  f : ∀ b o u, H b = some (.frz o u) → H' b = some (.frz o u)
  x : ∀ b fs, H b = some (.xd fs) → H' b = some (.xd fs)
theorem TK.refl {H : Hp} : TK H H := ⟨fun _ _ h => h, fun _ _ _ h => h, fun _ _ h => h⟩
theorem TK.trans {H H1 H2 : Hp} (a : TK H H1) (b : TK H1 H2) : TK H H2 := ⟨fun c x h => b.t c x (a.t c x h), fun c o u h => b.f c o u (a.f c o u h), fun c x h => b.x c x (a.x c x h)⟩
theorem TK.sqt {K : PySem.W.Frag} {H H' : Hp} {a : Addr} {xs : List V} (k : TK H H') (h : SqT K H a xs) : SqT K H' a xs := by
  rcases h with (h | ⟨o, h⟩) | h
  · exact .inl (.inl (k.t _ _ h))
  · exact .inl (.inr ⟨o, k.f _ _ _ h⟩)
  · exact .inr h
theorem TK.new {H : Hp} {a : Addr} {o : HO} (h : H a = none) : TK H (upd H a o) :=
  ⟨fun b xs e => by rw [upd_ne (ne_of_none e h)]; exact e, fun b o u e => by rw [upd_ne (ne_of_none e h)]; exact e, fun b u e => by rw [upd_ne (ne_of_none e h)]; exact e⟩
theorem TK.wr {H : Hp} {a : Addr} {o u : HO} (h : H a = some u) (n1 : ∀ xs, u ≠ .tup xs) (n2 : ∀ o v, u ≠ .frz o v) (n3 : ∀ fs, u ≠ .xd fs) : TK H (upd H a o) :=
  ⟨fun b xs e => by rw [upd_ne (fun z => by rw [z, h] at e; exact n1 xs (Option.some.inj e))]; exact e, fun b o u' e => by rw [upd_ne (fun z => by rw [z, h] at e; exact n2 o u' (Option.some.inj e))]; exact e, fun b fs e => by rw [upd_ne (fun z => by rw [z, h] at e; exact n3 fs (Option.some.inj e))]; exact e⟩

mutual
theorem RV.keep {K : PySem.W.Frag} {H H' : Hp} (k : TK H H') : ∀ {v : V} {d : D}, RV K H v d → RV K H' v d
  | _, _, .non => .non
  | _, _, .bl => .bl
  | _, _, .int => .int
  | _, _, .str => .str
  | _, _, .ref => .ref
  | _, _, .ty => .ty
  | _, _, .cls h => .cls h
  | _, _, .tup h r => .tup (k.sqt h) (RVs.keep k r)
theorem RVs.keep {K : PySem.W.Frag} {H H' : Hp} (k : TK H H') : ∀ {vs : List V} {ds : List D}, Paired (RV K H) vs ds → Paired (RV K H') vs ds
  | _, _, .nil => .nil
  | _, _, .cons r t => .cons (RV.keep k r) (RVs.keep k t)
end

theorem RVs.len {K : PySem.W.Frag} {H : Hp} {vs : List V} {ds : List D} (r : RVs K H vs ds) : vs.length = ds.length := Paired.length r
theorem RVs.at {K : PySem.W.Frag} {H : Hp} : ∀ {vs : List V} {ds : List D} {i : Nat} {d : D}, RVs K H vs ds → ds[i]? = some d → ∃ v, vs[i]? = some v ∧ RV K H v d
  | _, _, _, _, .nil, e => by simp at e
  | _, _, 0, _, .cons r _, e => by simp at e; subst e; exact ⟨_, rfl, r⟩
  | _, _, i + 1, d, .cons _ t, e => by
    obtain ⟨u, h1, h2⟩ := RVs.at (i := i) (d := d) t (by simpa using e)
    exact ⟨u, by simpa using h1, h2⟩
theorem RVs.at' {K : PySem.W.Frag} {H : Hp} : ∀ {vs : List V} {ds : List D} {i : Nat} {v : V}, RVs K H vs ds → vs[i]? = some v → ∃ d, ds[i]? = some d ∧ RV K H v d
  | _, _, _, _, .nil, e => by simp at e
  | _, _, 0, _, .cons r _, e => by simp at e; subst e; exact ⟨_, rfl, r⟩
  | _, _, i + 1, d, .cons _ t, e => by
    obtain ⟨u, h1, h2⟩ := RVs.at' (i := i) (v := d) t (by simpa using e)
    exact ⟨u, by simpa using h1, h2⟩
theorem RVs.append {K : PySem.W.Frag} {H : Hp} : ∀ {vs ws : List V} {ds es : List D}, RVs K H vs ds → RVs K H ws es → RVs K H (vs ++ ws) (ds ++ es)
  | _, _, _, _, .nil, s => s
  | _, _, _, _, .cons r t, s => .cons r (RVs.append t s)
theorem RVs.take {K : PySem.W.Frag} {H : Hp} : ∀ {vs : List V} {ds : List D} (n : Nat), RVs K H vs ds → RVs K H (vs.take n) (ds.take n)
  | _, _, 0, _ => .nil
  | _, _, _ + 1, .nil => .nil
  | _, _, n + 1, .cons r t => .cons r (RVs.take n t)
theorem RVs.drop {K : PySem.W.Frag} {H : Hp} : ∀ {vs : List V} {ds : List D} (n : Nat), RVs K H vs ds → RVs K H (vs.drop n) (ds.drop n)
  | _, _, 0, r => r
  | _, _, _ + 1, .nil => .nil
  | _, _, n + 1, .cons _ t => RVs.drop n t
theorem RVs.set {K : PySem.W.Frag} {H : Hp} {v : V} {d : D} (r : RV K H v d) : ∀ {vs : List V} {ds : List D} (i : Nat), RVs K H vs ds → RVs K H (vs.set i v) (ds.set i d)
  | _, _, _, .nil => .nil
  | _, _, 0, .cons _ t => .cons r t
  | _, _, i + 1, .cons q t => .cons q (RVs.set r i t)
theorem RVs.reverse {K : PySem.W.Frag} {H : Hp} : ∀ {vs : List V} {ds : List D}, RVs K H vs ds → RVs K H vs.reverse ds.reverse
  | _, _, .nil => .nil
  | _, _, .cons r t => by
    rw [List.reverse_cons, List.reverse_cons]
    exact RVs.append (RVs.reverse t) (.cons r .nil)

/-- the object that stands there, over the heap -/
def RO (K : PySem.W.Frag) (H : Hp) (a : Addr) : MO → Prop
  | .lst ds => ∃ xs, H a = some (.lst xs) ∧ RVs K H xs ds
  | .scr ds => (∃ o xs, H a = some (.frz o (.lst xs)) ∧ RVs K H xs ds)
  | .dK kvs => ∃ ws, H a = some (.dK ws) ∧ Paired (fun (p : Key × V) (q : Key × D) => p.1 = q.1 ∧ RV K H p.2 q.2) ws kvs
  | .dT kvs => ∃ ws, H a = some (.dT ws) ∧ Paired (fun (p : List Key × V) (q : List Key × D) => p.1 = q.1 ∧ RV K H p.2 q.2) ws kvs
  | .ins C fs => ∃ dx ws, H a = some (.ins C dx ws) ∧ Paired (fun (p : Str × V) (q : Str × D) => p.1 = q.1 ∧ RV K H p.2 q.2) ws fs
def RS (K : PySem.W.Frag) (H : Hp) (S : Sto) : Prop := ∀ a o, S a = some o → RO K H a o
theorem pk {K : PySem.W.Frag} {H H' : Hp} {κ : Type} (k : TK H H') : ∀ {ws : List (κ × V)} {kvs : List (κ × D)}, Paired (fun (p : κ × V) (q : κ × D) => p.1 = q.1 ∧ RV K H p.2 q.2) ws kvs → Paired (fun (p : κ × V) (q : κ × D) => p.1 = q.1 ∧ RV K H' p.2 q.2) ws kvs
  | _, _, .nil => .nil
  | _, _, .cons r t => .cons ⟨r.1, RV.keep k r.2⟩ (pk k t)
theorem RO.keep {K : PySem.W.Frag} {H H' : Hp} {a : Addr} {o : MO} (k : TK H H') (e : H' a = H a) (h : RO K H a o) : RO K H' a o := by
  cases o with
  | lst ds => obtain ⟨xs, h1, h2⟩ := h; exact ⟨xs, e.trans h1, RVs.keep k h2⟩
  | scr ds => obtain ⟨ob, xs, h1, h2⟩ := h; exact ⟨ob, xs, e.trans h1, RVs.keep k h2⟩
  | dK kvs => obtain ⟨ws, h1, h2⟩ := h; exact ⟨ws, e.trans h1, pk k h2⟩
  | dT kvs => obtain ⟨ws, h1, h2⟩ := h; exact ⟨ws, e.trans h1, pk k h2⟩
  | ins C fs => obtain ⟨dx, ws, h1, h2⟩ := h; exact ⟨dx, ws, e.trans h1, pk k h2⟩
theorem RO.some {K : PySem.W.Frag} {H : Hp} {a : Addr} {o : MO} (h : RO K H a o) : H a ≠ none := by
  cases o with
  | lst ds => obtain ⟨xs, h1, _⟩ := h; rw [h1]; simp
  | scr ds => obtain ⟨ob, xs, h1, _⟩ := h; rw [h1]; simp
  | dK kvs => obtain ⟨ws, h1, _⟩ := h; rw [h1]; simp
  | dT kvs => obtain ⟨ws, h1, _⟩ := h; rw [h1]; simp
  | ins C fs => obtain ⟨dx, ws, h1, _⟩ := h; rw [h1]; simp
theorem RS.free {K : PySem.W.Frag} {H : Hp} {S : Sto} {a : Addr} (r : RS K H S) (h : H a = none) : S a = none := by
  cases e : S a with
  | none => rfl
  | some o => exact absurd h (r a o e).some
/-- a new object that the store doesn't speak of (a tuple) -/
theorem RS.new {K : PySem.W.Frag} {H : Hp} {S : Sto} {a : Addr} {o : HO} (r : RS K H S) (h : H a = none) : RS K (upd H a o) S := fun b u e => by
  have ne : b ≠ a := fun z => by subst z; exact (r b u e).some h
  exact (r b u e).keep (TK.new h) (upd_ne ne)
theorem RS.put {K : PySem.W.Frag} {H : Hp} {S : Sto} {a : Addr} {o : HO} {m : MO} (r : RS K H S) (k : TK H (upd H a o)) (x : RO K (upd H a o) a m) : RS K (upd H a o) (put S a m) := fun b u e => by
  by_cases hb : b = a
  · subst hb; rw [put_same] at e; cases e; exact x
  · rw [put_ne hb] at e
    exact (r b u e).keep k (upd_ne hb)
/-- less is told -/
def Sub (S S' : Sto) : Prop := ∀ a o, S a = some o → S' a = some o
theorem Sub.refl {S : Sto} : Sub S S := fun _ _ h => h
theorem Sub.trans {S S1 S2 : Sto} (a : Sub S S1) (b : Sub S1 S2) : Sub S S2 := fun c o h => b c o (a c o h)
theorem Sub.new {S : Sto} {a : Addr} {o : MO} (h : S a = none) : Sub S (Vm.put S a o) := fun b u e => by rw [put_ne (ne_new e h)]; exact e
theorem RS.sub {K : PySem.W.Frag} {H : Hp} {S S' : Sto} (r : RS K H S') (h : Sub S S') : RS K H S := fun a o e => r a o (h a o e)

/-- an exception's class and fields -/
def RXc (K : PySem.W.Frag) (H : Hp) (cls : Value) (dd : Option Addr) (c : Str) (fs : List (Str × D)) : Prop :=
  (∃ C, cls = .ref C ∧ PySem.W.nsIn K mainGlobals c = some (some (.ref C))) ∧ ((fs = [] ∧ dd = none) ∨ ∃ d ws, dd = some d ∧ H d = some (.xd ws) ∧ Paired (fun (p : Str × V) (q : Str × D) => p.1 = q.1 ∧ RV K H p.2 q.2) ws fs)
theorem RXc.keep {K : PySem.W.Frag} {H H' : Hp} {cls : Value} {dd : Option Addr} {c : Str} {fs : List (Str × D)} (k : TK H H') (h : RXc K H cls dd c fs) : RXc K H' cls dd c fs :=
  ⟨h.1, h.2.imp id fun ⟨d, ws, e, hd, p⟩ => ⟨d, ws, e, k.x _ _ hd, pk k p⟩⟩
abbrev Pn := List (Addr × Obj)
/-- what a slot holds: data, or the handled exception -/
inductive RL (K : PySem.W.Frag) (pn : Pn) (H : Hp) : V → D → Prop
  | val {v d} : RV K H v d → RL K pn H v d
  | exn {a oe cls dd c fs} : (a, oe) ∈ pn → Zc cls dd oe → (∃ vs, oe.data = .fields vs) → RXc K H cls dd c fs → RL K pn H (.ref a) (.exn c fs)
theorem RL.keep {K : PySem.W.Frag} {pn : Pn} {H H' : Hp} {v : V} {d : D} (k : TK H H') : RL K pn H v d → RL K pn H' v d
  | .val h => .val (h.keep k)
  | .exn a b c d => .exn a b c (d.keep k)
theorem RL.mono {K : PySem.W.Frag} {pn pn' : Pn} {H : Hp} {v : V} {d : D} (h : ∀ p ∈ pn, p ∈ pn') : RL K pn H v d → RL K pn' H v d
  | .val h => .val h
  | .exn a b c d => .exn (h _ a) b c d
abbrev Gam := List (Option D)
structure RG (K : PySem.W.Frag) (pn : Pn) (H : Hp) (σ : St) (Γ : Gam) : Prop where
  len : σ.length = Γ.length
  get : ∀ (i : Nat) (d : D), Γ[i]? = some (some d) → ∃ v, σ[i]? = some (some v) ∧ RL K pn H v d
theorem RG.keep {K : PySem.W.Frag} {pn : Pn} {H H' : Hp} {σ : St} {Γ : Gam} (k : TK H H') (r : RG K pn H σ Γ) : RG K pn H' σ Γ :=
  ⟨r.len, fun i d e => let ⟨v, h1, h2⟩ := r.get i d e; ⟨v, h1, h2.keep k⟩⟩
theorem RG.mono {K : PySem.W.Frag} {pn pn' : Pn} {H : Hp} {σ : St} {Γ : Gam} (h : ∀ p ∈ pn, p ∈ pn') (r : RG K pn H σ Γ) : RG K pn' H σ Γ :=
  ⟨r.len, fun i d e => let ⟨v, h1, h2⟩ := r.get i d e; ⟨v, h1, h2.mono h⟩⟩
theorem RG.setL {K : PySem.W.Frag} {pn : Pn} {H : Hp} {σ : St} {Γ : Gam} {v : V} {d : D} {i : Nat} (r : RG K pn H σ Γ) (h : RL K pn H v d) : RG K pn H (σ.set i (some v)) (Γ.set i (some d)) :=
  ⟨by rw [List.length_set, List.length_set]; exact r.len, fun j e hj => by
    by_cases hi : i = j
    · subst hi
      have lt : i < Γ.length := by
        rcases Nat.lt_or_ge i Γ.length with z | z
        · exact z
        · rw [List.getElem?_eq_none (by simpa using z)] at hj; cases hj
      rw [List.getElem?_set_self lt] at hj
      cases hj
      exact ⟨v, List.getElem?_set_self (by rw [r.len]; exact lt), h⟩
    · rw [List.getElem?_set_ne hi] at hj ⊢
      exact r.get j e hj⟩
theorem RG.set {K : PySem.W.Frag} {pn : Pn} {H : Hp} {σ : St} {Γ : Gam} {v : V} {d : D} {i : Nat} (r : RG K pn H σ Γ) (h : RV K H v d) : RG K pn H (σ.set i (some v)) (Γ.set i (some d)) := r.setL (.val h)
theorem RG.unset {K : PySem.W.Frag} {pn : Pn} {H : Hp} {σ : St} {Γ : Gam} {i : Nat} (r : RG K pn H σ Γ) : RG K pn H (σ.set i none) (Γ.set i none) :=
  ⟨by rw [List.length_set, List.length_set]; exact r.len, fun j e hj => by
    by_cases hi : i = j
    · subst hi
      rcases Nat.lt_or_ge i Γ.length with z | z
      · rw [List.getElem?_set_self z] at hj; cases hj
      · rw [List.getElem?_eq_none (by simpa using z)] at hj; cases hj
    · rw [List.getElem?_set_ne hi] at hj ⊢
      exact r.get j e hj⟩
def wipeG (Γ : Gam) : List Nat → Gam
  | [] => Γ
  | v :: vs => (wipeG Γ vs).set v none
theorem RG.wipe {K : PySem.W.Frag} {pn : Pn} {H : Hp} {σ : St} {Γ : Gam} (r : RG K pn H σ Γ) : ∀ vs : List Nat, RG K pn H (L2.wipe σ vs) (wipeG Γ vs)
  | [] => r
  | v :: vs => (RG.wipe r vs).unset
/-- the slots without exceptions -/
def cleanO : Option D → Option D
  | some (.exn _ _) => none
  | o => o
def clean (Γ : Gam) : Gam := Γ.map cleanO
theorem RG.clean {K : PySem.W.Frag} {pn pn' : Pn} {H : Hp} {σ : St} {Γ : Gam} (r : RG K pn H σ Γ) : RG K pn' H σ (Vm.clean Γ) :=
  ⟨by unfold Vm.clean; rw [List.length_map]; exact r.len, fun i d e => by
    unfold Vm.clean at e
    rw [List.getElem?_map] at e
    cases q : Γ[i]? with
    | none => rw [q] at e; cases e
    | some o =>
      rw [q] at e
      cases o with
      | none => cases e
      | some d' =>
        obtain ⟨v, h1, h2⟩ := r.get i d' q
        cases h2 with
        | exn => cases e
        | val h =>
          have : d = d' := by
            cases h <;> (cases e; rfl)
          subst this
          exact ⟨v, h1, .val h⟩⟩

/-- an exception: its class by its name, its fields -/
structure Ex where
  cls : Str
  fs : List (Str × D)
abbrev XP := Ex → Sto → Prop
abbrev XG := Ex → Gam → Sto → Prop
def RX (K : PySem.W.Frag) (H : Hp) (cls : Value) (dd : Option Addr) (x : Ex) : Prop := RXc K H cls dd x.cls x.fs
/-- what is wanted of an exception; the handled exceptions that slots may hold -/
structure WP where
  w : WX
  pn : Pn
abbrev KE := D → Sto → Prop
abbrev WE := Gam → Sto → KE → XP → Prop
abbrev WA := Gam → Sto → (List D → Sto → Prop) → XP → Prop
abbrev WT := Gam → Sto → (Bool → Sto → Prop) → XP → Prop
structure En where
  nx : Gam → Sto → Prop
  rt : KE
abbrev WS := Gam → Sto → En → XG → Prop
abbrev WG := D → Gam → Sto → (Gam → Sto → Prop) → XG → Prop

section
variable (X : Cx) (W : WP)
/-- what is wanted of an exception, over the data -/
def XOk (E' : XP) (σ : St) (H : Hp) : Prop := ∀ x S' cls dd H', E' x S' → TK H H' → RX X.K H' cls dd x → RS X.K H' S' → W.w cls dd σ H'
def XGOk (E' : XG) (H : Hp) : Prop := ∀ x Γ' S' cls dd σ' H', E' x Γ' S' → TK H H' → RX X.K H' cls dd x → RG X.K W.pn H' σ' Γ' → RS X.K H' S' → W.w cls dd σ' H'
def tI (m : WE) : TE := fun σ H Q => ∃ Γ S Q' E', RG X.K W.pn H σ Γ ∧ RS X.K H S ∧ m Γ S Q' E' ∧ (∀ d S' v H', Q' d S' → TK H H' → RV X.K H' v d → RS X.K H' S' → Q v H') ∧ XOk X W E' σ H
def tA (m : WA) : TA := fun σ H Q => ∃ Γ S Q' E', RG X.K W.pn H σ Γ ∧ RS X.K H S ∧ m Γ S Q' E' ∧ (∀ ds S' vs H', Q' ds S' → TK H H' → RVs X.K H' vs ds → RS X.K H' S' → Q vs H') ∧ XOk X W E' σ H
def tT (m : WT) : TT := fun σ H Q => ∃ Γ S Q' E', RG X.K W.pn H σ Γ ∧ RS X.K H S ∧ m Γ S Q' E' ∧ (∀ b S' H', Q' b S' → TK H H' → RS X.K H' S' → Q b H') ∧ XOk X W E' σ H
def tS (m : WS) : TS := fun D σ H => ∃ Γ S D' E', RG X.K W.pn H σ Γ ∧ RS X.K H S ∧ m Γ S D' E' ∧ (∀ Γ' S' σ' H', D'.nx Γ' S' → TK H H' → RG X.K W.pn H' σ' Γ' → RS X.K H' S' → D.nx σ' H') ∧
  (∀ d S' v H', D'.rt d S' → TK H H' → RV X.K H' v d → RS X.K H' S' → D.rt v H') ∧ XGOk X W E' H
def tGt (m : WG) : TG := fun v σ H Q => ∃ d Γ S Q' E', RV X.K H v d ∧ RG X.K W.pn H σ Γ ∧ RS X.K H S ∧ m d Γ S Q' E' ∧ (∀ Γ' S' σ' H', Q' Γ' S' → TK H H' → RG X.K W.pn H' σ' Γ' → RS X.K H' S' → Q σ' H') ∧ XGOk X W E' H
end
variable {X : Cx} {W : WP}
theorem XOk.keep {E' : XP} {σ : St} {H H1 : Hp} (k : TK H H1) (h : XOk X W E' σ H) : XOk X W E' σ H1 := fun x S' cls dd H' e t => h x S' cls dd H' e (k.trans t)
theorem XGOk.keep {E' : XG} {H H1 : Hp} (k : TK H H1) (h : XGOk X W E' H) : XGOk X W E' H1 := fun x Γ' S' cls dd σ' H' e t => h x Γ' S' cls dd σ' H' e (k.trans t)
theorem pe_imp {e : Expr} {t t' : TE} (h : PE X e t) (i : ∀ σ H Q, t' σ H Q → t σ H Q) : PE X e t' := ⟨fun pins s σ H Q I q => h.run pins s σ H Q I (i σ H Q q)⟩
theorem pt_imp {e : Expr} {t t' : TT} (h : PT X e t) (i : ∀ σ H Q, t' σ H Q → t σ H Q) : PT X e t' := ⟨fun pins s σ H Q I q => h.run pins s σ H Q I (i σ H Q q)⟩
theorem pw_imp {e : Expr} {t t' : TT} (h : PW X e t) (i : ∀ σ H Q, t' σ H Q → t σ H Q) : PW X e t' := ⟨fun wh pins s σ H Q I q => h.run wh pins s σ H Q I (i σ H Q q)⟩
theorem pa_imp {es : List Expr} {t t' : TA} (h : PA X es t) (i : ∀ σ H Q, t' σ H Q → t σ H Q) : PA X es t' := ⟨fun pos pins s σ H Q I q => h.run pos pins s σ H Q I (i σ H Q q)⟩
theorem ps_imp {st : Stmt} {t t' : TS} (h : PS X st t) (i : ∀ D σ H, t' D σ H → t D σ H) : PS X st t' := ⟨fun pins s σ H D I q => h.run pins s σ H D I (i D σ H q)⟩
theorem pss_imp {st : List Stmt} {t t' : TS} (h : PSs X st t) (i : ∀ D σ H, t' D σ H → t D σ H) : PSs X st t' := ⟨fun pins s σ H D I q => h.run pins s σ H D I (i D σ H q)⟩
theorem pg_imp {tg : Expr} {t t' : TG} (h : PG X tg t) (i : ∀ v σ H Q, t' v σ H Q → t v σ H Q) : PG X tg t' := ⟨fun pins s σ H v u Q I r q => h.run pins s σ H v u Q I r (i v σ H Q q)⟩

/-- two expressions behind one another -/
def two (m1 m2 : WE) (k : D → D → Sto → KE → Prop) : WE := fun Γ S Q E => m1 Γ S (fun x S1 => m2 Γ S1 (fun y S2 => k x y S2 Q) E) E
theorem two_imp {m1 m2 : WE} {k : D → D → Sto → KE → Prop} {r : V → V → Hp → VK → Prop}
    (hk : ∀ {x y : D} {S : Sto} {Q' : KE} {H : Hp} {v u : V} {Q : VK}, RS X.K H S → RV X.K H v x → RV X.K H u y → k x y S Q' → (∀ d S' v' H', Q' d S' → TK H H' → RV X.K H' v' d → RS X.K H' S' → Q v' H') → r v u H Q) :
    ∀ σ H Q, tI X W (two m1 m2 k) σ H Q → tOp r (tI X W m1) (tI X W m2) σ H Q := by
  intro σ H Q ⟨Γ, S, Q', E', g, rs, hm, hq, hx⟩
  refine ⟨Γ, S, _, E', g, rs, hm, fun x S1 v H1 h1 k1 rx r1 => ?_, hx⟩
  refine ⟨Γ, S1, _, E', g.keep k1, r1, h1, fun y S2 u H2 h2 k2 ry r2 => ?_, hx.keep k1⟩
  exact hk r2 (rx.keep k2) ry h2 fun d S' v' H' hd kd rd rs' => hq d S' v' H' hd ((k1.trans k2).trans kd) rd rs'
end Vm
/-! VmB: operators over plain data. -/
namespace Vm
open PySem PySem.Spec PyProof.Rows L2
variable {X : Cx} {W : WP}

/-- what a rule of values may conclude from one of data -/
abbrev Fin1 (X : Cx) (Q' : KE) (H : Hp) (Q : VK) : Prop := ∀ d S' v' H', Q' d S' → TK H H' → RV X.K H' v' d → RS X.K H' S' → Q v' H'
/-- an operator on data, sound over the operator on values -/
def Op2 (X : Cx) (k : D → D → Sto → KE → Prop) (r : R2) : Prop :=
  ∀ {x y : D} {S : Sto} {Q' : KE} {H : Hp} {v u : V} {Q : VK}, RS X.K H S → RV X.K H v x → RV X.K H u y → k x y S Q' → Fin1 X Q' H Q → r v u H Q

theorem rv_int {K H v i} (r : RV K H v (.int i)) : v = .int i := by cases r; rfl
theorem rv_str {K H v i} (r : RV K H v (.str i)) : v = .str i := by cases r; rfl
theorem rv_bl {K H v i} (r : RV K H v (.bl i)) : v = .bl i := by cases r; rfl
theorem rv_non {K H v} (r : RV K H v .non) : v = .non := by cases r; rfl
theorem rv_ref {K H v a} (r : RV K H v (.ref a)) : v = .ref a := by cases r; rfl
theorem rv_ty {K H v n} (r : RV K H v (.ty n)) : v = .ty n.name := by cases r; rfl
theorem rv_tup {K H v ds} (r : RV K H v (.tup ds)) : ∃ a vs, v = .ref a ∧ SqT K H a vs ∧ RVs K H vs ds := by cases r with | tup h r => exact ⟨_, _, rfl, h, r⟩

/-- the list at a place -/
def onL (S : Sto) (a : Addr) (k : List D → Prop) : Prop := match S a with | some (.lst ds) => k ds | _ => False
theorem onL_of {S : Sto} {a : Addr} {ds : List D} {k : List D → Prop} (h : S a = some (.lst ds)) : onL S a k = k ds := by unfold onL; rw [h]
theorem onL_get {S : Sto} {a : Addr} {k : List D → Prop} (h : onL S a k) : ∃ ds, S a = some (.lst ds) ∧ k ds := by
  unfold onL at h
  split at h
  · rename_i ds e; exact ⟨ds, e, h⟩
  · cases h
/-- a list that is read -/
def onR (S : Sto) (a : Addr) (k : List D → Prop) : Prop := match S a with | some (.lst ds) => k ds | some (.scr ds) => k ds | _ => False
theorem onR_get {S : Sto} {a : Addr} {k : List D → Prop} (h : onR S a k) : ∃ ds, (S a = some (.lst ds) ∨ S a = some (.scr ds)) ∧ k ds := by
  unfold onR at h
  split at h
  · rename_i ds e; exact ⟨ds, .inl e, h⟩
  · rename_i ds e; exact ⟨ds, .inr e, h⟩
  · cases h
theorem RS.lst {K H S a ds} (r : RS K H S) (h : S a = some (.lst ds)) : ∃ xs, H a = some (.lst xs) ∧ RVs K H xs ds := r a _ h
theorem RS.rd {K H S a ds} (r : RS K H S) (h : S a = some (.lst ds) ∨ S a = some (.scr ds)) : ∃ xs, SqL K H a xs ∧ RVs K H xs ds := by
  rcases h with h | h
  · obtain ⟨xs, e, q⟩ := r a _ h; exact ⟨xs, .inl (.inl e), q⟩
  · obtain ⟨o, xs, e, q⟩ := r a _ h; exact ⟨xs, .inl (.inr ⟨o, e⟩), q⟩

/-! ### numbers -/
def addW (x y : D) (S : Sto) (Q : KE) : Prop := match x, y with
  | .int i, .int j => Q (.int (i + j)) S
  | .str a, .str b => a.length + b.length ≤ sizeLine ∧ Q (.str (a ++ b)) S
  | .tup xs, .tup ys => xs.length + ys.length ≤ sizeLine ∧ Q (.tup (xs ++ ys)) S
  | .ref a, .ref b => onL S a fun xs => onL S b fun ys => xs.length + ys.length ≤ sizeLine ∧ ∀ p, S p = none → Q (.ref p) (put S p (.lst (xs ++ ys)))
  | _, _ => False
def rAddA (K : PySem.W.Frag) : R2 := fun x y H Q => (∃ i j, x = .int i ∧ y = .int j ∧ Q (.int (i + j)) H) ∨ ((∃ i j, x = .str i ∧ y = .str j ∧ i.length + j.length ≤ sizeLine ∧ Q (.str (i ++ j)) H) ∨ (rCatA K x y H Q ∨ rCat x y H Q))
theorem op_addA : OpR X (binaryOp .Add) (rAddA X.K) := op_add.or (op_add_str.or (op_catA.or op_cat))
theorem o2_add : Op2 X addW (rAddA X.K) := by
  intro x y S Q' H v u Q rs rx ry h fin
  unfold addW at h
  split at h
  · cases rv_int rx; cases rv_int ry
    exact .inl ⟨_, _, rfl, rfl, fin _ _ _ _ h TK.refl .int rs⟩
  · cases rv_str rx; cases rv_str ry
    exact .inr (.inl ⟨_, _, rfl, rfl, h.1, fin _ _ _ _ h.2 TK.refl .str rs⟩)
  · rename_i xs ys
    obtain ⟨a, vs, rfl, ha, ra⟩ := rv_tup rx
    obtain ⟨b, ws, rfl, hb, rb⟩ := rv_tup ry
    refine .inr (.inr (.inl ⟨a, b, vs, ws, rfl, rfl, ha, hb, by rw [ra.len, rb.len]; exact h.1, fun e => ?_, fun _ e => ?_, fun _ _ p hp => ?_⟩))
    · subst e; cases ra; exact fin _ _ _ _ h.2 TK.refl ry rs
    · subst e; cases rb; exact fin _ _ _ _ h.2 TK.refl (by rw [List.append_nil]; exact rx) rs
    · exact fin _ _ _ _ h.2 (TK.new hp) (.tup (.inl (.inl upd_same)) (RVs.keep (TK.new hp) (ra.append rb))) (rs.new hp)
  · rename_i a b
    cases rv_ref rx; cases rv_ref ry
    obtain ⟨xs, hx, h⟩ := onL_get h
    obtain ⟨ys, hy, hz, h⟩ := onL_get h
    obtain ⟨vs, ha, ra⟩ := rs.lst hx
    obtain ⟨ws, hb, rb⟩ := rs.lst hy
    refine .inr (.inr (.inr ⟨a, b, vs, ws, rfl, rfl, ha, hb, by rw [ra.len, rb.len]; exact hz, fun p hp => ?_⟩))
    exact fin _ _ _ _ (h p (rs.free hp)) (TK.new hp) .ref (rs.put (TK.new hp) ⟨_, upd_same, RVs.keep (TK.new hp) (ra.append rb)⟩)
  · cases h
def intW (C : Int → Int → Prop) (g : Int → Int → D) (x y : D) (S : Sto) (Q : KE) : Prop := match x, y with
  | .int i, .int j => C i j ∧ Q (g i j) S
  | _, _ => False
theorem o2_int {C : Int → Int → Prop} {g : Int → Int → Int} : Op2 X (intW C fun i j => .int (g i j)) (rI C fun i j => .int (g i j)) := by
  intro x y S Q' H v u Q rs rx ry h fin
  unfold intW at h
  split at h
  · cases rv_int rx; cases rv_int ry
    exact ⟨_, _, rfl, rfl, h.1, fin _ _ _ _ h.2 TK.refl .int rs⟩
  · cases h
/-- no condition -/
def intW0 (g : Int → Int → D) (x y : D) (S : Sto) (Q : KE) : Prop := match x, y with
  | .int i, .int j => Q (g i j) S
  | _, _ => False
theorem o2_int0 {g : Int → Int → Int} : Op2 X (intW0 fun i j => .int (g i j)) (rI0 fun i j => .int (g i j)) := by
  intro x y S Q' H v u Q rs rx ry h fin
  unfold intW0 at h
  split at h
  · cases rv_int rx; cases rv_int ry
    exact ⟨_, _, rfl, rfl, fin _ _ _ _ h TK.refl .int rs⟩
  · cases h
theorem o2_bl0 {g : Int → Int → Bool} : Op2 X (intW0 fun i j => .bl (g i j)) (rI0 fun i j => .bl (g i j)) := by
  intro x y S Q' H v u Q rs rx ry h fin
  unfold intW0 at h
  split at h
  · cases rv_int rx; cases rv_int ry
    exact ⟨_, _, rfl, rfl, fin _ _ _ _ h TK.refl .bl rs⟩
  · cases h
def subW : D → D → Sto → KE → Prop := intW0 fun i j => .int (i - j)
/-- bits of both together -/
def MulOk (i j : Int) : Prop := IntMulOk i j
theorem op_mulA : OpR X (binaryOp .Mult) (rI MulOk fun i j => .int (i * j)) := opI fun _ _ _ _ _ _ _ hc q => mul_int q hc
theorem MulOk.left {i j : Int} (h1 : -(2 ^ 64) < i) (h2 : i < 2 ^ 64) : MulOk i j := .of_left (intBits_le_64 h1 h2)
theorem MulOk.right {i j : Int} (h1 : -(2 ^ 64) < j) (h2 : j < 2 ^ 64) : MulOk i j := .of_right (intBits_le_64 h1 h2)
theorem MulOk.bits {i j : Int} {a b : Nat} (ha : i.natAbs < 2 ^ a) (hb : j.natAbs < 2 ^ b) (h0 : 0 < a) (h1 : 0 < b) (h : a + b ≤ 1000000) : MulOk i j := (wide_mul ha hb h0 h1 h).ok
def mulW (x y : D) (S : Sto) (Q : KE) : Prop := match x, y with
  | .int i, .int j => MulOk i j ∧ Q (.int (i * j)) S
  | .tup xs, .int k => xs ≠ [] ∧ 2 ≤ k ∧ k ≤ 1000 ∧ xs.length ≤ 1000 ∧ Q (.tup (List.replicate k.toNat xs).flatten) S
  | _, _ => False
def rMulA (K : PySem.W.Frag) : R2 := fun x y H Q => rI MulOk (fun i j => .int (i * j)) x y H Q ∨ rRepT K x y H Q
theorem op_mulB : OpR X (binaryOp .Mult) (rMulA X.K) := op_mulA.or op_repT
theorem RVs.flat {K : PySem.W.Frag} {H : Hp} {vs : List V} {ds : List D} (r : RVs K H vs ds) : ∀ k : Nat, RVs K H (List.replicate k vs).flatten (List.replicate k ds).flatten
  | 0 => .nil
  | k + 1 => by
    rw [List.replicate_succ, List.flatten_cons, List.replicate_succ, List.flatten_cons]
    exact r.append (RVs.flat r k)
theorem o2_mul : Op2 X mulW (rMulA X.K) := by
  intro x y S Q' H v u Q rs rx ry h fin
  unfold mulW at h
  split at h
  · cases rv_int rx; cases rv_int ry
    exact .inl ⟨_, _, rfl, rfl, h.1, fin _ _ _ _ h.2 TK.refl .int rs⟩
  · rename_i xs k
    obtain ⟨a, vs, rfl, ha, ra⟩ := rv_tup rx
    cases rv_int ry
    obtain ⟨h1, h2, h3, h4, h5⟩ := h
    refine .inr ⟨a, k, vs, rfl, rfl, ha, fun e => h1 ?_, h2, h3, by rw [ra.len]; exact h4, fun p hp => ?_⟩
    · subst e; cases ra; rfl
    · exact fin _ _ _ _ h5 (TK.new hp) (.tup (.inl (.inl upd_same)) (RVs.keep (TK.new hp) (ra.flat _))) (rs.new hp)
  · cases h
/-- //: the divisor not 0, below 9000 bits -/
def DivOk (i j : Int) : Prop := j ≠ 0 ∧ Builtin.divisionGoesByPylong i j = false
theorem DivOk.bits {i j : Int} {n : Nat} (h : j ≠ 0) (hb : j.natAbs < 2 ^ n) (h0 : 0 < n) (h9 : n ≤ 9000) : DivOk i j := ⟨h, PyProof.noPylong_of_log2 (Nat.lt_of_lt_of_le (PySem.Flt.log2_lt_of h0 hb) h9)⟩
theorem DivOk.small {i j : Int} (h : j ≠ 0) (h1 : -1073741824 < j) (h2 : j < 1073741824) : DivOk i j := ⟨h, PyProof.noPylong_small (by omega)⟩
theorem op_fdivA : OpR X (binaryOp .FloorDiv) (rI DivOk fun i j => .int (i.fdiv j)) := opI fun _ _ _ _ _ _ _ hc q => floordiv_int hc.1 q (.inl hc.2)
def fdivW : D → D → Sto → KE → Prop := intW DivOk fun i j => .int (i.fdiv j)
def modW : D → D → Sto → KE → Prop := intW (fun _ j => j ≠ 0) fun i j => .int (i.fmod j)
def powW : D → D → Sto → KE → Prop := intW CPow fun i j => .int (i ^ j.toNat)

/-! ### comparisons -/
def ltW : D → D → Sto → KE → Prop := intW0 fun i j => .bl (decide (i < j))
def leW : D → D → Sto → KE → Prop := intW0 fun i j => .bl (decide (i ≤ j))
def gtW : D → D → Sto → KE → Prop := intW0 fun i j => .bl (decide (j < i))
def geW : D → D → Sto → KE → Prop := intW0 fun i j => .bl (decide (j ≤ i))
/-- data without objects, as the library's own -/
def allM {α β : Type} (f : α → Option β) : List α → Option (List β)
  | [] => some []
  | a :: r => match f a, allM f r with | some b, some bs => some (b :: bs) | _, _ => none
def pdOf (S : Sto) : Nat → D → Option PyData
  | 0, _ => none
  | n + 1, d => match d with
    | .non => some .none
    | .bl b => some (.bool b)
    | .int i => some (.int i)
    | .str x => some (.str x)
    | .tup ds => (allM (pdOf S n) ds).map .tuple
    | .ref a => (match S a with | some (.lst ds) => (allM (pdOf S n) ds).map .list | some (.scr ds) => (allM (pdOf S n) ds).map .list | _ => none)
    | _ => none
theorem dpAll_of {K : PySem.W.Frag} {H : Hp} {f : D → Option PyData} (hf : ∀ d p v, f d = some p → RV K H v d → Dp K H v p) : ∀ {ds : List D} {ps : List PyData} {vs : List V}, allM f ds = some ps → RVs K H vs ds → DpAll K H vs ps
  | [], ps, vs, h, r => by
    cases r
    cases h
    exact .nil
  | d :: ds, ps, vs, h, r => by
    cases r with
    | cons r t =>
      unfold allM at h
      split at h
      · rename_i b bs h1 h2
        cases h
        exact .cons (hf _ _ _ h1 r) (dpAll_of hf h2 t)
      · cases h
theorem dp_of {K : PySem.W.Frag} {H : Hp} {S : Sto} (rs : RS K H S) : ∀ (n : Nat) (d : D) (p : PyData) (v : V), pdOf S n d = some p → RV K H v d → Dp K H v p
  | 0, _, _, _, h, _ => by cases h
  | n + 1, d, p, v, h, r => by
    unfold pdOf at h
    split at h
    · cases h; cases rv_non r; exact .non
    · cases h; cases rv_bl r; exact .bl _
    · cases h; cases rv_int r; exact .int _
    · cases h; cases rv_str r; exact .str _
    · rename_i ds
      obtain ⟨a, vs, rfl, ha, ra⟩ := rv_tup r
      cases e : allM (pdOf S n) ds with
      | none => rw [e] at h; cases h
      | some ps =>
        rw [e] at h
        cases h
        exact .tup ha (dpAll_of (dp_of rs n) e ra)
    · rename_i a
      cases rv_ref r
      split at h
      · rename_i ds e1
        obtain ⟨xs, hx, rx⟩ := rs.rd (.inl e1)
        cases e : allM (pdOf S n) ds with
        | none => rw [e] at h; cases h
        | some ps =>
          rw [e] at h
          cases h
          exact .lst hx (dpAll_of (dp_of rs n) e rx)
      · rename_i ds e1
        obtain ⟨xs, hx, rx⟩ := rs.rd (.inr e1)
        cases e : allM (pdOf S n) ds with
        | none => rw [e] at h; cases h
        | some ps =>
          rw [e] at h
          cases h
          exact .lst hx (dpAll_of (dp_of rs n) e rx)
      · cases h
    · cases h
/-- == : of flat data at once, else by what lies within -/
def eqW (neg : Bool) (x y : D) (S : Sto) (Q : KE) : Prop := match x, y with
  | .int i, .int j => Q (.bl (neg ^^ decide (i = j))) S
  | .str i, .str j => Q (.bl (neg ^^ decide (i = j))) S
  | .non, .non => Q (.bl (neg ^^ true)) S
  | .bl i, .bl j => Q (.bl (neg ^^ decide (i = j))) S
  | _, _ => match pdOf S 24 x, pdOf S 24 y with
    | some p, some q => SeqAt.shaped p = true ∧ SeqAt.shaped q = true ∧ Q (.bl (neg ^^ PyData.eqv p q)) S
    | _, _ => False
def rEqA (K : PySem.W.Frag) (neg : Bool) : R2 := fun x y H Q => (scal x y = true ∧ Q (.bl (neg ^^ decide (x = y))) H) ∨ ∃ d e, Dp K H x d ∧ Dp K H y e ∧ SeqAt.shaped d = true ∧ SeqAt.shaped e = true ∧ Q (.bl (neg ^^ PyData.eqv d e)) H
theorem op_eqA (hu : X.A.units + 64 < cLine) : OpR X (compareOp .Eq) (rEqA X.K false) := by
  intro pins s σ H x y v u Q I rx ry h
  rcases h with ⟨h1, h2⟩ | ⟨d, e, h1, h2, h3, h4, h5⟩
  · exact op_eq pins s σ H x y v u Q I rx ry ⟨h1, by simpa using h2⟩
  · exact op_eqD hu pins s σ H x y v u Q I rx ry ⟨d, e, h1, h2, h3, h4, by simpa using h5⟩
theorem op_neA (hu : X.A.units + 64 < cLine) : OpR X (compareOp .NotEq) (rEqA X.K true) := by
  intro pins s σ H x y v u Q I rx ry h
  rcases h with ⟨h1, h2⟩ | ⟨d, e, h1, h2, h3, h4, h5⟩
  · exact op_ne pins s σ H x y v u Q I rx ry ⟨h1, by simpa using h2⟩
  · exact op_neD hu pins s σ H x y v u Q I rx ry ⟨d, e, h1, h2, h3, h4, by simpa using h5⟩
theorem o2_eq {neg : Bool} : Op2 X (eqW neg) (rEqA X.K neg) := by
  intro x y S Q' H v u Q rs rx ry h fin
  unfold eqW at h
  split at h
  · rename_i i j
    cases rv_int rx; cases rv_int ry
    have e : decide (V.int i = V.int j) = decide (i = j) := by simp
    exact .inl ⟨rfl, by rw [e]; exact fin _ _ _ _ h TK.refl .bl rs⟩
  · rename_i i j
    cases rv_str rx; cases rv_str ry
    have e : decide (V.str i = V.str j) = decide (i = j) := by simp
    exact .inl ⟨rfl, by rw [e]; exact fin _ _ _ _ h TK.refl .bl rs⟩
  · cases rv_non rx; cases rv_non ry
    have e : decide (V.non = V.non) = true := by simp
    exact .inl ⟨rfl, by rw [e]; exact fin _ _ _ _ h TK.refl .bl rs⟩
  · rename_i i j
    cases rv_bl rx; cases rv_bl ry
    have e : decide (V.bl i = V.bl j) = decide (i = j) := by simp
    exact .inl ⟨rfl, by rw [e]; exact fin _ _ _ _ h TK.refl .bl rs⟩
  · split at h
    · rename_i p q e1 e2
      exact .inr ⟨p, q, dp_of rs _ _ _ _ e1 rx, dp_of rs _ _ _ _ e2 ry, h.1, h.2.1, fin _ _ _ _ h.2.2 TK.refl .bl rs⟩
    · cases h
/-- is None, is not None -/
def isW (neg : Bool) (x y : D) (S : Sto) (Q : KE) : Prop := match y with
  | .non => (match x with | .non => Q (.bl (neg ^^ true)) S | _ => Q (.bl (neg ^^ false)) S)
  | _ => False
def rIsA (neg : Bool) : R2 := fun x y H Q => y = .non ∧ Q (.bl (neg ^^ decide (x = .non))) H
theorem op_isA : OpR X (compareOp .Is) (rIsA false) := by
  intro pins s σ H x y v u Q I rx ry h
  exact op_isN pins s σ H x y v u Q I rx ry ⟨h.1, by simpa using h.2⟩
theorem op_isnotA : OpR X (compareOp .IsNot) (rIsA true) := by
  intro pins s σ H x y v u Q I rx ry h
  exact op_notN pins s σ H x y v u Q I rx ry ⟨h.1, by simpa using h.2⟩
theorem o2_is {neg : Bool} : Op2 X (isW neg) (rIsA neg) := by
  intro x y S Q' H v u Q rs rx ry h fin
  unfold isW at h
  split at h
  · cases rv_non ry
    refine ⟨rfl, ?_⟩
    split at h
    · cases rv_non rx
      have e : decide (V.non = V.non) = true := by simp
      rw [e]
      exact fin _ _ _ _ h TK.refl .bl rs
    · rename_i n
      have e : decide (v = V.non) = false := by
        apply decide_eq_false
        intro z
        subst z
        cases rx
        exact n rfl
      rw [e]
      exact fin _ _ _ _ h TK.refl .bl rs
  · cases h
/-! ### in -/
def flatD : D → Bool
  | .non => true | .bl _ => true | .int _ => true | .str _ => true | _ => false
def eqF : D → D → Bool
  | .non, .non => true
  | .bl a, .bl b => a == b
  | .bl a, .int b => (if a then 1 else 0) == b
  | .int a, .bl b => a == (if b then 1 else 0)
  | .int a, .int b => a == b
  | .str a, .str b => a == b
  | _, _ => false
def inF (x : D) (ys : List D) : Bool := ys.any fun y => eqF y x
theorem flat_of {K : PySem.W.Frag} {H : Hp} {v : V} {d : D} (r : RV K H v d) (f : flatD d = true) : flatV v = true := by
  cases r <;> first | rfl | cases f
theorem eqF_of {K : PySem.W.Frag} {H : Hp} {v u : V} {d e : D} (r : RV K H v d) (q : RV K H u e) (f : flatD d = true) (g : flatD e = true) : eqV v u = eqF d e := by
  cases r <;> cases q <;> first | rfl | cases f | cases g
theorem flats_of {K : PySem.W.Frag} {H : Hp} : ∀ {vs : List V} {ds : List D}, RVs K H vs ds → ds.all flatD = true → vs.all flatV = true
  | _, _, .nil, _ => rfl
  | _, _, .cons r t, f => by
    rw [List.all_cons, Bool.and_eq_true] at f
    rw [List.all_cons, flat_of r f.1, flats_of t f.2] <;> rfl
theorem inF_of {K : PySem.W.Frag} {H : Hp} {u : V} {e : D} (q : RV K H u e) (g : flatD e = true) : ∀ {vs : List V} {ds : List D}, RVs K H vs ds → ds.all flatD = true → inV u vs = inF e ds
  | _, _, .nil, _ => rfl
  | _, _, .cons r t, f => by
    rw [List.all_cons, Bool.and_eq_true] at f
    show (eqV _ u || inV u _) = (eqF _ e || inF e _)
    rw [eqF_of r q f.1 g, inF_of q g t f.2]
def inW (neg : Bool) (x y : D) (S : Sto) (Q : KE) : Prop := match x, y with
  | .str i, .str j => Q (.bl (neg ^^ (!(Builtin.Str.occurrences j i 0 j.length 1).isEmpty))) S
  | x, .tup ys => flatD x = true ∧ ys.all flatD = true ∧ Q (.bl (neg ^^ inF x ys)) S
  | x, .ref a => onR S a fun ys => flatD x = true ∧ ys.all flatD = true ∧ Q (.bl (neg ^^ inF x ys)) S
  | _, _ => False
def rInA (K : PySem.W.Frag) (neg : Bool) : R2 := fun x y H Q => (∃ i j, x = .str i ∧ y = .str j ∧ Q (.bl (neg ^^ (!(Builtin.Str.occurrences j i 0 j.length 1).isEmpty))) H) ∨
  ∃ p xs, y = .ref p ∧ (SqL K H p xs ∨ SqT K H p xs) ∧ flatV x = true ∧ xs.all flatV = true ∧ Q (.bl (neg ^^ inV x xs)) H
theorem op_inA : OpR X (compareOp .In) (rInA X.K false) := by
  intro pins s σ H x y v u Q I rx ry h
  rcases h with ⟨i, j, e1, e2, q⟩ | ⟨p, xs, e1, h1, h2, h3, q⟩
  · exact op_in_str pins s σ H x y v u Q I rx ry ⟨i, j, e1, e2, by simpa using q⟩
  · exact op_in_seq pins s σ H x y v u Q I rx ry ⟨p, xs, e1, h1, h2, h3, by simpa using q⟩
theorem op_notinA : OpR X (compareOp .NotIn) (rInA X.K true) := by
  intro pins s σ H x y v u Q I rx ry h
  rcases h with ⟨i, j, e1, e2, q⟩ | ⟨p, xs, e1, h1, h2, h3, q⟩
  · exact op_notin_str pins s σ H x y v u Q I rx ry ⟨i, j, e1, e2, by simpa using q⟩
  · exact op_notIn_seq pins s σ H x y v u Q I rx ry ⟨p, xs, e1, h1, h2, h3, by simpa using q⟩
theorem o2_in {neg : Bool} : Op2 X (inW neg) (rInA X.K neg) := by
  intro x y S Q' H v u Q rs rx ry h fin
  unfold inW at h
  split at h
  · cases rv_str rx; cases rv_str ry
    exact .inl ⟨_, _, rfl, rfl, fin _ _ _ _ h TK.refl .bl rs⟩
  · obtain ⟨a, vs, rfl, ha, ra⟩ := rv_tup ry
    refine .inr ⟨a, vs, rfl, .inr ha, flat_of rx h.1, flats_of ra h.2.1, ?_⟩
    rw [inF_of rx h.1 ra h.2.1]
    exact fin _ _ _ _ h.2.2 TK.refl .bl rs
  · cases rv_ref ry
    obtain ⟨ys, hy, h1, h2, h3⟩ := onR_get h
    obtain ⟨vs, ha, ra⟩ := rs.rd hy
    refine .inr ⟨_, vs, rfl, .inl ha, flat_of rx h1, flats_of ra h2, ?_⟩
    rw [inF_of rx h1 ra h2]
    exact fin _ _ _ _ h3 TK.refl .bl rs
  · cases h

/-! ### items -/
def ixW (x y : D) (S : Sto) (Q : KE) : Prop := match x, y with
  | .tup xs, .int i => (match atI xs i with | some d => Q d S | none => False)
  | .ref a, .int i => onR S a fun xs => (match atI xs i with | some d => Q d S | none => False)
  | .str z, .int i => z.length ≤ sizeLine ∧ (match atI z.cps.toList i with | some c => Q (.str ⟨#[c]⟩) S | none => False)
  | _, _ => False
theorem atI_rvs {K : PySem.W.Frag} {H : Hp} {vs : List V} {ds : List D} {i : Int} {d : D} (r : RVs K H vs ds) (h : atI ds i = some d) : ∃ v, atI vs i = some v ∧ RV K H v d := by
  unfold atI at h ⊢
  rw [r.len]
  cases e : ixN ds.length i with
  | none => rw [e] at h; cases h
  | some j =>
    rw [e] at h
    exact r.at h
theorem o2_ix : Op2 X ixW (rIx X.K) := by
  intro x y S Q' H v u Q rs rx ry h fin
  unfold ixW at h
  split at h
  · obtain ⟨a, vs, rfl, ha, ra⟩ := rv_tup rx
    cases rv_int ry
    split at h
    · rename_i d e
      obtain ⟨w, h1, h2⟩ := atI_rvs ra e
      exact .inr (.inl ⟨a, vs, _, w, rfl, rfl, ha, h1, fin _ _ _ _ h TK.refl h2 rs⟩)
    · cases h
  · cases rv_ref rx; cases rv_int ry
    obtain ⟨ys, hy, h⟩ := onR_get h
    obtain ⟨vs, ha, ra⟩ := rs.rd hy
    split at h
    · rename_i d e
      obtain ⟨w, h1, h2⟩ := atI_rvs ra e
      exact .inl ⟨_, vs, _, w, rfl, rfl, ha, h1, fin _ _ _ _ h TK.refl h2 rs⟩
    · cases h
  · cases rv_str rx; cases rv_int ry
    obtain ⟨hz, h⟩ := h
    split at h
    · rename_i c e
      exact .inr (.inr ⟨_, _, c, rfl, rfl, hz, e, fin _ _ _ _ h TK.refl .str rs⟩)
    · cases h
  · cases h
end Vm
/-! VmC: expressions over plain data. -/
namespace Vm
open PySem PySem.Spec PyProof.Rows L2
variable {X : Cx} {W : WP}

def stuck : WE := fun _ _ _ _ => False
theorem pe_stuck {e : Expr} : PE X e (tI X W stuck) := ⟨fun _ _ _ _ _ _ h => by obtain ⟨_, _, _, _, _, _, h, _⟩ := h; exact h.elim⟩
def stuckT : WT := fun _ _ _ _ => False
theorem pt_stuck {e : Expr} : PT X e (tT X W stuckT) := ⟨fun _ _ _ _ _ _ h => by obtain ⟨_, _, _, _, _, _, h, _⟩ := h; exact h.elim⟩
/-- a value that is there -/
def valW (d : D) : WE := fun _ S Q _ => Q d S
theorem val_imp {v : V} {d : D} (h : ∀ H, RV X.K H v d) : ∀ σ H Q, tI X W (valW d) σ H Q → tC v σ H Q := fun σ H Q ⟨Γ, S, Q', E', g, rs, hm, hq, hx⟩ => hq _ _ _ _ hm TK.refl (h H) rs
def constW : Const → WE
  | .int i => valW (.int i)
  | .str x => valW (.str x)
  | .none => valW .non
  | .bool b => valW (.bl b)
  | _ => stuck
theorem pe_const {c : Const} {k : Nat} {pos : Pos} : PE X (.Constant c k pos) (tI X W (constW c)) := by
  cases c with
  | int i => exact pe_imp pe_int (val_imp fun _ => .int)
  | str x => exact pe_imp pe_str (val_imp fun _ => .str)
  | none => exact pe_imp pe_non (val_imp fun _ => .non)
  | bool b => exact pe_imp pe_bl (val_imp fun _ => .bl)
  | _ => exact pe_stuck
/-- a slot -/
def slotW (i : Nat) : WE := fun Γ S Q _ => match Γ[i]? with | some (some (.exn _ _)) => False | some (some d) => Q d S | _ => False
theorem pe_slot {i : Nat} {x : Str} {pos : Pos} (hN : X.N[i]? = some x) (hv : Vis X.env.scope x) (hd : (x == ("__debug__" : Str)) = false) (hcd : (x == ("__classdict__" : Str)) = false) : PE X (.Name x pos) (tI X W (slotW i)) := by
  refine pe_imp (pe_var hN hv hd hcd) fun σ H Q ⟨Γ, S, Q', E', g, rs, hm, hq, hx⟩ => ?_
  unfold slotW at hm
  split at hm
  · cases hm
  · rename_i d n e
    obtain ⟨v, h1, h2⟩ := g.get i d e
    cases h2 with
    | val h2 => exact ⟨v, h1, hq _ _ _ _ hm TK.refl h2 rs⟩
    | exn => exact absurd rfl (n _ _)
  · cases hm
theorem pe_two {a b : Expr} {op : Operator} {pos : Pos} {m1 m2 : WE} {k : D → D → Sto → KE → Prop} {r : R2} (ho : OpR X (binaryOp op) r) (hk : Op2 X k r) (h1 : PE X a (tI X W m1)) (h2 : PE X b (tI X W m2)) : PE X (.BinOp a op b pos) (tI X W (two m1 m2 k)) :=
  pe_imp (pe_op ho h1 h2) (two_imp fun a b c d e => hk a b c d e)
theorem pe_cmp2 {a b : Expr} {op : CmpOp} {pos : Pos} {m1 m2 : WE} {k : D → D → Sto → KE → Prop} {r : R2} (ho : OpR X (compareOp op) r) (hk : Op2 X k r) (h1 : PE X a (tI X W m1)) (h2 : PE X b (tI X W m2)) (hm : behindInMarks op b = false) :
    PE X (.Compare a [op] [b] pos) (tI X W (two m1 m2 k)) :=
  pe_imp (pe_cmpR ho h1 h2 hm) (two_imp fun a b c d e => hk a b c d e)
def asB (Q : Bool → Sto → Prop) : KE := fun d S => match d with | .bl b => Q b S | _ => False
theorem asB_get {Q : Bool → Sto → Prop} {d : D} {S : Sto} (h : asB Q d S) : ∃ b, d = .bl b ∧ Q b S := by
  unfold asB at h
  split at h
  · exact ⟨_, rfl, h⟩
  · cases h
/-- a value as a test -/
def tst (m : WE) : WT := fun Γ S Q E => m Γ S (asB Q) E
theorem tst_imp {m : WE} : ∀ σ H Q, tT X W (tst m) σ H Q → tI X W m σ H (fun x H' => ∃ k, x = .bl k ∧ Q k H') := fun σ H Q ⟨Γ, S, Q', E', g, rs, hm, hq, hx⟩ =>
  ⟨Γ, S, _, E', g, rs, hm, fun d S' v H' h k rv rs' => by
    obtain ⟨b, rfl, hz⟩ := asB_get h
    cases rv_bl rv
    exact ⟨b, rfl, hq _ _ _ hz k rs'⟩, hx⟩
theorem pt_cmp2 {a b : Expr} {op : CmpOp} {pos : Pos} {m1 m2 : WE} {k : D → D → Sto → KE → Prop} {r : R2} (ho : OpR X (compareOp op) r) (hk : Op2 X k r) (h1 : PE X a (tI X W m1)) (h2 : PE X b (tI X W m2)) (hm : behindInMarks op b = false) :
    PT X (.Compare a [op] [b] pos) (tT X W (tst (two m1 m2 k))) :=
  pt_imp (pt_cmpR ho h1 h2 hm) fun σ H Q h => two_imp (fun a b c d e => hk a b c d e) σ H _ (tst_imp σ H Q h)
theorem pt_of {e : Expr} {m : WE} (h : PE X e (tI X W m)) (he : ∀ whole, isTrue e X.env whole = (do let v ← whole; standAt e.pos; holding [v] (truthy v))) : PT X e (tT X W (tst m)) :=
  pt_imp (pt_val h he) fun σ H Q h => tst_imp σ H Q h
/-- a op b op' c -/
def chainW (m1 m2 m3 : WE) (k k' : D → D → Sto → KE → Prop) : WE := fun Γ S Q E => m1 Γ S (fun x S1 => m2 Γ S1 (fun y S2 => k x y S2 (asB fun b S3 => if b = true then m3 Γ S3 (fun z S4 => k' y z S4 Q) E else Q (.bl false) S3)) E) E
theorem chain_imp {m1 m2 m3 : WE} {k k' : D → D → Sto → KE → Prop} {r r' : R2} (hk : Op2 X k r) (hk' : Op2 X k' r') : ∀ σ H Q, tI X W (chainW m1 m2 m3 k k') σ H Q → tChain r r' (tI X W m1) (tI X W m2) (tI X W m3) σ H Q := by
  intro σ H Q ⟨Γ, S, Q', E', g, rs, hm, hq, hx⟩
  refine ⟨Γ, S, _, E', g, rs, hm, fun x S1 v H1 h1 k1 rx r1 => ?_, hx⟩
  refine ⟨Γ, S1, _, E', g.keep k1, r1, h1, fun y S2 u H2 h2 k2 ry r2 => ?_, hx.keep k1⟩
  refine hk r2 (rx.keep k2) ry h2 fun d S3 z H3 h3 k3 rz r3 => ?_
  obtain ⟨b, rfl, hz⟩ := asB_get h3
  clear h3
  cases rv_bl rz
  refine ⟨b, rfl, ?_⟩
  cases b with
  | false =>
    rw [if_neg Bool.false_ne_true] at hz ⊢
    exact hq _ _ _ _ hz ((k1.trans k2).trans k3) .bl r3
  | true =>
    rw [if_pos rfl] at hz ⊢
    refine ⟨Γ, S3, _, E', g.keep ((k1.trans k2).trans k3), r3, hz, fun w S4 wv H4 h4 k4 rw' r4 => ?_, hx.keep ((k1.trans k2).trans k3)⟩
    exact hk' r4 (ry.keep (k3.trans k4)) rw' h4 fun d S5 v5 H5 h5 k5 rv5 rs5 => hq _ _ _ _ h5 ((((k1.trans k2).trans k3).trans k4).trans k5) rv5 rs5
theorem marks2 {o1 o2 : CmpOp} {b c : Expr} (h : behindInMarks o2 c = false) : lastMarks [o1, o2] [b, c] = false := h
theorem pe_chainD {a b c : Expr} {op op' : CmpOp} {pos : Pos} {m1 m2 m3 : WE} {k k' : D → D → Sto → KE → Prop} {r r' : R2} (ho : OpR X (compareOp op) r) (ho' : OpR X (compareOp op') r') (hk : Op2 X k r) (hk' : Op2 X k' r')
    (h1 : PE X a (tI X W m1)) (h2 : PE X b (tI X W m2)) (h3 : PE X c (tI X W m3)) (hm : behindInMarks op' c = false) : PE X (.Compare a [op, op'] [b, c] pos) (tI X W (chainW m1 m2 m3 k k')) :=
  pe_imp (pe_chain ho ho' h1 h2 h3 (marks2 hm)) (chain_imp hk hk')
theorem pt_chainD {a b c : Expr} {op op' : CmpOp} {pos : Pos} {m1 m2 m3 : WE} {k k' : D → D → Sto → KE → Prop} {r r' : R2} (ho : OpR X (compareOp op) r) (ho' : OpR X (compareOp op') r') (hk : Op2 X k r) (hk' : Op2 X k' r')
    (h1 : PE X a (tI X W m1)) (h2 : PE X b (tI X W m2)) (h3 : PE X c (tI X W m3)) (hm : behindInMarks op' c = false) : PT X (.Compare a [op, op'] [b, c] pos) (tT X W (tst (chainW m1 m2 m3 k k'))) :=
  pt_imp (pt_chain ho ho' h1 h2 h3 (marks2 hm)) fun σ H Q h => chain_imp hk hk' σ H _ (tst_imp σ H Q h)

/-! ### one-place operators -/
def oneW (m : WE) (k : D → Sto → KE → Prop) : WE := fun Γ S Q E => m Γ S (fun x S1 => k x S1 Q) E
def negW (x : D) (S : Sto) (Q : KE) : Prop := match x with | .int i => Q (.int (-i)) S | _ => False
theorem pe_neg {a : Expr} {pos : Pos} {m : WE} (h : PE X a (tI X W m)) : PE X (.UnaryOp .USub a pos) (tI X W (oneW m negW)) := by
  refine pe_imp (pe_un un_neg h) fun σ H Q ⟨Γ, S, Q', E', g, rs, hm, hq, hx⟩ => ⟨Γ, S, _, E', g, rs, hm, fun x S1 v H1 h1 k1 rx r1 => ?_, hx⟩
  unfold negW at h1
  split at h1
  · cases rv_int rx
    exact ⟨_, rfl, hq _ _ _ _ h1 k1 .int r1⟩
  · cases h1
def notW (x : D) (S : Sto) (Q : KE) : Prop := asB (fun b S1 => Q (.bl (!b)) S1) x S
theorem pe_notD {a : Expr} {pos : Pos} {m : WE} (h : PE X a (tI X W m)) : PE X (.UnaryOp .Not a pos) (tI X W (oneW m notW)) := by
  refine pe_imp (pe_not h) fun σ H Q ⟨Γ, S, Q', E', g, rs, hm, hq, hx⟩ => ⟨Γ, S, _, E', g, rs, hm, fun x S1 v H1 h1 k1 rx r1 => ?_, hx⟩
  obtain ⟨b, rfl, hz⟩ := asB_get h1
  cases rv_bl rx
  exact ⟨b, rfl, hq _ _ _ _ hz k1 .bl r1⟩
def notT (m : WT) : WT := fun Γ S Q E => m Γ S (fun b S1 => Q (!b) S1) E
theorem pt_notD {a : Expr} {pos : Pos} {m : WT} (h : PT X a (tT X W m)) : PT X (.UnaryOp .Not a pos) (tT X W (notT m)) :=
  pt_imp (pt_not h) fun σ H Q ⟨Γ, S, Q', E', g, rs, hm, hq, hx⟩ => ⟨Γ, S, _, E', g, rs, hm, fun b S1 H1 h1 k1 r1 => hq _ _ _ h1 k1 r1, hx⟩
/-! ### and, or -/
def andT : List WT → WT
  | [] => stuckT
  | [m] => m
  | m :: ms => fun Γ S Q E => m Γ S (fun b S1 => if b = true then andT ms Γ S1 Q E else Q false S1) E
def orT : List WT → WT
  | [] => stuckT
  | [m] => m
  | m :: ms => fun Γ S Q E => m Γ S (fun b S1 => if b = true then Q true S1 else orT ms Γ S1 Q E) E
theorem pw_andD {pos : Pos} {f : Expr → WT} : ∀ {es : List Expr}, (∀ e ∈ es, PT X e (tT X W (f e))) → PW X (.BoolOp .And es pos) (tT X W (andT (es.map f)))
  | [], _ => ⟨fun _ _ _ _ _ _ _ h => by obtain ⟨_, _, _, _, _, _, h, _⟩ := h; exact h.elim⟩
  | [e], h => pw_and1 (h e (by simp))
  | e :: e2 :: es, h => by
    refine pw_imp (pw_and (h e (by simp)) (pw_andD (es := e2 :: es) fun e' he => h e' (List.mem_cons_of_mem _ he))) fun σ H Q ⟨Γ, S, Q', E', g, rs, hm, hq, hx⟩ => ?_
    refine ⟨Γ, S, _, E', g, rs, hm, fun b S1 H1 h1 k1 r1 => ?_, hx⟩
    cases b with
    | false =>
      rw [if_neg Bool.false_ne_true] at h1 ⊢
      exact hq _ _ _ h1 k1 r1
    | true =>
      rw [if_pos rfl] at h1 ⊢
      exact ⟨Γ, S1, _, E', g.keep k1, r1, h1, fun b S2 H2 h2 k2 r2 => hq _ _ _ h2 (k1.trans k2) r2, hx.keep k1⟩
theorem pw_orD {pos : Pos} {f : Expr → WT} : ∀ {es : List Expr}, (∀ e ∈ es, PT X e (tT X W (f e))) → PW X (.BoolOp .Or es pos) (tT X W (orT (es.map f)))
  | [], _ => ⟨fun _ _ _ _ _ _ _ h => by obtain ⟨_, _, _, _, _, _, h, _⟩ := h; exact h.elim⟩
  | [e], h => pw_or1 (h e (by simp))
  | e :: e2 :: es, h => by
    refine pw_imp (pw_or (h e (by simp)) (pw_orD (es := e2 :: es) fun e' he => h e' (List.mem_cons_of_mem _ he))) fun σ H Q ⟨Γ, S, Q', E', g, rs, hm, hq, hx⟩ => ?_
    refine ⟨Γ, S, _, E', g, rs, hm, fun b S1 H1 h1 k1 r1 => ?_, hx⟩
    cases b with
    | true =>
      rw [if_pos rfl] at h1 ⊢
      exact hq _ _ _ h1 k1 r1
    | false =>
      rw [if_neg Bool.false_ne_true] at h1 ⊢
      exact ⟨Γ, S1, _, E', g.keep k1, r1, h1, fun b S2 H2 h2 k2 r2 => hq _ _ _ h2 (k1.trans k2) r2, hx.keep k1⟩
def andV : List WE → WE
  | [] => stuck
  | [m] => m
  | m :: ms => fun Γ S Q E => m Γ S (asB fun b S1 => if b = true then andV ms Γ S1 Q E else Q (.bl false) S1) E
def orV : List WE → WE
  | [] => stuck
  | [m] => m
  | m :: ms => fun Γ S Q E => m Γ S (asB fun b S1 => if b = true then Q (.bl true) S1 else orV ms Γ S1 Q E) E
theorem pe_andD {pos : Pos} {f : Expr → WE} : ∀ {es : List Expr}, (∀ e ∈ es, PE X e (tI X W (f e))) → PE X (.BoolOp .And es pos) (tI X W (andV (es.map f)))
  | [], _ => pe_stuck
  | [e], h => pe_one (h e (by simp))
  | e :: e2 :: es, h => by
    refine pe_imp (pe_and (h e (by simp)) (pe_andD (es := e2 :: es) fun e' he => h e' (List.mem_cons_of_mem _ he))) fun σ H Q ⟨Γ, S, Q', E', g, rs, hm, hq, hx⟩ => ?_
    refine ⟨Γ, S, _, E', g, rs, hm, fun d S1 v H1 h1 k1 rv r1 => ?_, hx⟩
    obtain ⟨b, rfl, hz⟩ := asB_get h1
    clear h1
    cases rv_bl rv
    refine ⟨b, rfl, ?_⟩
    cases b with
    | false =>
      rw [if_neg Bool.false_ne_true] at hz ⊢
      exact hq _ _ _ _ hz k1 .bl r1
    | true =>
      rw [if_pos rfl] at hz ⊢
      exact ⟨Γ, S1, _, E', g.keep k1, r1, hz, fun d S2 v H2 h2 k2 rv r2 => hq _ _ _ _ h2 (k1.trans k2) rv r2, hx.keep k1⟩
theorem pe_orD {pos : Pos} {f : Expr → WE} : ∀ {es : List Expr}, (∀ e ∈ es, PE X e (tI X W (f e))) → PE X (.BoolOp .Or es pos) (tI X W (orV (es.map f)))
  | [], _ => pe_stuck
  | [e], h => pe_one (h e (by simp))
  | e :: e2 :: es, h => by
    refine pe_imp (pe_or (h e (by simp)) (pe_orD (es := e2 :: es) fun e' he => h e' (List.mem_cons_of_mem _ he))) fun σ H Q ⟨Γ, S, Q', E', g, rs, hm, hq, hx⟩ => ?_
    refine ⟨Γ, S, _, E', g, rs, hm, fun d S1 v H1 h1 k1 rv r1 => ?_, hx⟩
    obtain ⟨b, rfl, hz⟩ := asB_get h1
    clear h1
    cases rv_bl rv
    refine ⟨b, rfl, ?_⟩
    cases b with
    | true =>
      rw [if_pos rfl] at hz ⊢
      exact hq _ _ _ _ hz k1 .bl r1
    | false =>
      rw [if_neg Bool.false_ne_true] at hz ⊢
      exact ⟨Γ, S1, _, E', g.keep k1, r1, hz, fun d S2 v H2 h2 k2 rv r2 => hq _ _ _ _ h2 (k1.trans k2) rv r2, hx.keep k1⟩
def ifW (c : WT) (a b : WE) : WE := fun Γ S Q E => c Γ S (fun t S1 => if t = true then a Γ S1 Q E else b Γ S1 Q E) E
theorem pe_ifD {c a b : Expr} {pos : Pos} {mc : WT} {ma mb : WE} (hc : PT X c (tT X W mc)) (ha : PE X a (tI X W ma)) (hb : PE X b (tI X W mb)) : PE X (.IfExp c a b pos) (tI X W (ifW mc ma mb)) := by
  refine pe_imp (pe_ifExp hc ha hb) fun σ H Q ⟨Γ, S, Q', E', g, rs, hm, hq, hx⟩ => ⟨Γ, S, _, E', g, rs, hm, fun t S1 H1 h1 k1 r1 => ?_, hx⟩
  cases t with
  | true =>
    rw [if_pos rfl] at h1 ⊢
    exact ⟨Γ, S1, _, E', g.keep k1, r1, h1, fun d S2 v H2 h2 k2 rv r2 => hq _ _ _ _ h2 (k1.trans k2) rv r2, hx.keep k1⟩
  | false =>
    rw [if_neg Bool.false_ne_true] at h1 ⊢
    exact ⟨Γ, S1, _, E', g.keep k1, r1, h1, fun d S2 v H2 h2 k2 rv r2 => hq _ _ _ _ h2 (k1.trans k2) rv r2, hx.keep k1⟩

/-! ### argument lists, displays -/
def argsW : List WE → WA
  | [] => fun _ S Q _ => Q [] S
  | m :: ms => fun Γ S Q E => m Γ S (fun d S1 => argsW ms Γ S1 (fun ds S2 => Q (d :: ds) S2) E) E
def tAn (X : Cx) (W : WP) (n : Nat) (m : WA) : TA := fun σ H Q => ∃ Γ S Q' E', RG X.K W.pn H σ Γ ∧ RS X.K H S ∧ m Γ S Q' E' ∧ (∀ ds S' vs H', ds.length = n → Q' ds S' → TK H H' → RVs X.K H' vs ds → RS X.K H' S' → Q vs H') ∧ XOk X W E' σ H
def notStar : Expr → Bool
  | .Starred _ _ => false
  | _ => true
theorem star_of {e : Expr} {es : List Expr} {env : Env} (h : notStar e = true) : starEach (e :: es) env = (false, eval e env) :: starEach es env := by
  cases e <;> first | rfl | cases h
theorem stars_plain {env : Env} : ∀ {es : List Expr}, es.all notStar = true → (starEach es env).any (·.1) = false
  | [], _ => rfl
  | e :: es, h => by
    rw [List.all_cons, Bool.and_eq_true] at h
    rw [star_of h.1, List.any_cons, stars_plain h.2] <;> rfl
theorem pa_args {f : Expr → WE} : ∀ {es : List Expr}, es.all notStar = true → (∀ e ∈ es, PE X e (tI X W (f e))) → PA X es (tAn X W es.length (argsW (es.map f)))
  | [], _, _ => pa_imp pa_nil fun σ H Q ⟨Γ, S, Q', E', g, rs, hm, hq, hx⟩ => hq _ _ _ _ rfl hm TK.refl .nil rs
  | e :: es, hs, h => by
    rw [List.all_cons, Bool.and_eq_true] at hs
    refine pa_imp (pa_cons (h e (by simp)) (pa_args hs.2 fun e' he => h e' (List.mem_cons_of_mem _ he)) (star_of hs.1)) fun σ H Q ⟨Γ, S, Q', E', g, rs, hm, hq, hx⟩ => ?_
    refine ⟨Γ, S, _, E', g, rs, hm, fun d S1 v H1 h1 k1 rv r1 => ?_, hx⟩
    exact ⟨Γ, S1, _, E', g.keep k1, r1, h1, fun ds S2 vs H2 hl h2 k2 rvs r2 => hq _ _ _ _ (by rw [List.length_cons, hl] <;> rfl) h2 (k1.trans k2) (.cons (rv.keep k2) rvs) r2, hx.keep k1⟩
theorem line_of {n : Nat} (h : n ≤ 1000) : n ≤ sizeLine := by rw [sizeLine_eq]; omega
def tupW (ms : List WE) : WE := fun Γ S Q E => argsW ms Γ S (fun ds S1 => Q (.tup ds) S1) E
theorem pe_tupD {es : List Expr} {k : Nat} {pos : Pos} {f : Expr → WE} (hl : es.length ≤ 1000) (hs : es.all notStar = true) (h : ∀ e ∈ es, PE X e (tI X W (f e))) : PE X (.Tuple es k pos) (tI X W (tupW (es.map f))) := by
  refine pe_imp (pe_tup (pa_args hs h)) fun σ H Q ⟨Γ, S, Q', E', g, rs, hm, hq, hx⟩ => ⟨Γ, S, fun ds S1 => Q' (.tup ds) S1, E', g, rs, hm, fun ds S1 vs H1 hn h1 k1 rvs r1 => ⟨by rw [rvs.len, hn]; exact line_of hl, fun p hp => ?_⟩, hx⟩
  exact hq _ _ _ _ h1 (k1.trans (TK.new hp)) (.tup (.inl (.inl upd_same)) (RVs.keep (TK.new hp) rvs)) (r1.new hp)
def lstW (ms : List WE) : WE := fun Γ S Q E => argsW ms Γ S (fun ds S1 => ∀ p, S1 p = none → Q (.ref p) (put S1 p (.lst ds))) E
theorem pe_lstD {es : List Expr} {pos : Pos} {f : Expr → WE} (hl : es.length ≤ 1000) (hs : es.all notStar = true) (h : ∀ e ∈ es, PE X e (tI X W (f e))) : PE X (.List es pos) (tI X W (lstW (es.map f))) := by
  refine pe_imp (pe_lst (pa_args hs h)) fun σ H Q ⟨Γ, S, Q', E', g, rs, hm, hq, hx⟩ => ⟨Γ, S, fun ds S1 => ∀ p, S1 p = none → Q' (.ref p) (put S1 p (.lst ds)), E', g, rs, hm, fun ds S1 vs H1 hn h1 k1 rvs r1 => ⟨by rw [rvs.len, hn]; exact line_of hl, fun p hp => ?_⟩, hx⟩
  exact hq _ _ _ _ (h1 p (r1.free hp)) (k1.trans (TK.new hp)) .ref (r1.put (TK.new hp) ⟨_, upd_same, RVs.keep (TK.new hp) rvs⟩)

/-! ### items, slices -/
def notSlice : Expr → Bool
  | .Slice _ _ _ _ => false
  | .Starred _ _ => false
  | _ => true
theorem plainIx_of {b : Expr} (h : notSlice b = true) : PlainIx b := by
  intro o i
  cases b <;> first | rfl | cases h
theorem pe_ixD {a b : Expr} {pos : Pos} {m1 m2 : WE} (hb : notSlice b = true) (h1 : PE X a (tI X W m1)) (h2 : PE X b (tI X W m2)) : PE X (.Subscript a b pos) (tI X W (two m1 m2 ixW)) :=
  pe_imp (pe_ix ix_seq h1 h2 (plainIx_of hb)) (two_imp fun a b c d e => o2_ix a b c d e)
def cutD (xs : List D) (lo hi : Option Int) : List D := (xs.drop (HT.sIx xs.length 0 lo)).take (HT.sIx xs.length xs.length hi - HT.sIx xs.length 0 lo)
def sliceW (x : D) (lo hi : Option Int) (S : Sto) (Q : KE) : Prop := match x with
  | .tup xs => Q (.tup (cutD xs lo hi)) S
  | .ref a => onR S a fun xs => ∀ p, S p = none → Q (.ref p) (put S p (.lst (cutD xs lo hi)))
  | _ => False
theorem RVs.cut {K : PySem.W.Frag} {H : Hp} {vs : List V} {ds : List D} (r : RVs K H vs ds) (lo hi : Option Int) : RVs K H (cutV vs lo hi) (cutD ds lo hi) := by
  unfold cutV cutD
  rw [r.len]
  exact (r.drop _).take _
theorem cut_whole {xs : List D} {lo hi : Option Int} (h : HT.sIx xs.length 0 lo = 0 ∧ HT.sIx xs.length xs.length hi = xs.length) : cutD xs lo hi = xs := by
  unfold cutD
  rw [h.1, h.2]
  simp
theorem sl_ok {x : D} {lo hi : Option Int} {S : Sto} {Q' : KE} {H : Hp} {v : V} {Q : VK} (rs : RS X.K H S) (rx : RV X.K H v x) (h : sliceW x lo hi S Q') (fin : Fin1 X Q' H Q) : rSlA X.K v lo hi H Q ∨ rSlL X.K v lo hi H Q := by
  unfold sliceW at h
  split at h
  · rename_i xs
    obtain ⟨a, vs, rfl, ha, ra⟩ := rv_tup rx
    refine .inl ⟨a, vs, rfl, ha, fun e => ?_, fun _ p hp => ?_⟩
    · rw [cut_whole (by rw [← ra.len]; exact e)] at h
      exact fin _ _ _ _ h TK.refl rx rs
    · exact fin _ _ _ _ h (TK.new hp) (.tup (.inl (.inl upd_same)) (RVs.keep (TK.new hp) (ra.cut lo hi))) (rs.new hp)
  · cases rv_ref rx
    obtain ⟨ys, hy, h⟩ := onR_get h
    obtain ⟨vs, ha, ra⟩ := rs.rd hy
    refine .inr ⟨_, vs, rfl, ha, fun p hp => ?_⟩
    exact fin _ _ _ _ (h p (rs.free hp)) (TK.new hp) .ref (rs.put (TK.new hp) ⟨_, upd_same, RVs.keep (TK.new hp) (ra.cut lo hi)⟩)
  · cases h
/-- a part of a slice -/
def partW : Option WE → Gam → Sto → (Option Int → Sto → Prop) → XP → Prop
  | none => fun _ S Q _ => Q none S
  | some m => fun Γ S Q E => m Γ S (fun d S1 => match d with | .int i => Q (some i) S1 | _ => False) E
def tP (X : Cx) (W : WP) (m : Gam → Sto → (Option Int → Sto → Prop) → XP → Prop) : TO := fun σ H Q => ∃ Γ S Q' E', RG X.K W.pn H σ Γ ∧ RS X.K H S ∧ m Γ S Q' E' ∧ (∀ o S' H', Q' o S' → TK H H' → RS X.K H' S' → Q o H') ∧ XOk X W E' σ H
theorem po_imp {e : Option Expr} {t t' : TO} (h : PO X e t) (i : ∀ σ H Q, t' σ H Q → t σ H Q) : PO X e t' := ⟨fun pins s σ H Q I q => h.run pins s σ H Q I (i σ H Q q)⟩
theorem po_part {e : Option Expr} {f : Expr → WE} (h : ∀ x, e = some x → PE X x (tI X W (f x))) : PO X e (tP X W (partW (e.map f))) := by
  cases e with
  | none => exact po_imp po_none fun σ H Q ⟨Γ, S, Q', E', g, rs, hm, hq, hx⟩ => hq _ _ _ hm TK.refl rs
  | some x =>
    refine po_imp (po_some (h x rfl)) fun σ H Q ⟨Γ, S, Q', E', g, rs, hm, hq, hx⟩ => ⟨Γ, S, _, E', g, rs, hm, fun d S1 v H1 h1 k1 rv r1 => ?_, hx⟩
    split at h1
    · cases rv_int rv
      exact ⟨_, rfl, hq _ _ _ h1 k1 r1⟩
    · cases h1
def slW (m : WE) (ml mh : Gam → Sto → (Option Int → Sto → Prop) → XP → Prop) : WE := fun Γ S Q E => m Γ S (fun x S1 => ml Γ S1 (fun lo S2 => mh Γ S2 (fun hi S3 => sliceW x lo hi S3 Q) E) E) E
theorem pe_slD {a : Expr} {lo hi : Option Expr} {p2 pos : Pos} {f : Expr → WE} (h1 : PE X a (tI X W (f a))) (hl : ∀ x, lo = some x → PE X x (tI X W (f x))) (hh : ∀ x, hi = some x → PE X x (tI X W (f x))) :
    PE X (.Subscript a (.Slice lo hi none p2) pos) (tI X W (slW (f a) (partW (lo.map f)) (partW (hi.map f)))) := by
  refine pe_imp (pe_slice (sl_tupA.or sl_list) h1 (po_part hl) (po_part hh)) fun σ H Q ⟨Γ, S, Q', E', g, rs, hm, hq, hx⟩ => ?_
  refine ⟨Γ, S, _, E', g, rs, hm, fun x S1 v H1 h1 k1 rv r1 => ?_, hx⟩
  refine ⟨Γ, S1, _, E', g.keep k1, r1, h1, fun o S2 H2 h2 k2 r2 => ?_, hx.keep k1⟩
  refine ⟨Γ, S2, _, E', g.keep (k1.trans k2), r2, h2, fun u S3 H3 h3 k3 r3 => ?_, hx.keep (k1.trans k2)⟩
  exact sl_ok r3 (rv.keep (k2.trans k3)) h3 fun d S4 v4 H4 h4 k4 rv4 r4 => hq _ _ _ _ h4 (((k1.trans k2).trans k3).trans k4) rv4 r4
end Vm
/-! VmD: calls, built-ins, methods, what is walked, comprehensions, over plain data. -/
namespace Vm
open PySem PySem.Spec PyProof.Rows L2
variable {X : Cx} {W : WP}

theorem backTo_any {pos : Pos} {l : List (Bool × Sem Value)} (h : l.any (·.1) = false) : (backTo pos l).any (·.1) = false := by
  unfold backTo
  rw [List.any_map]
  exact h

/-! ### defs -/
abbrev FS := List D → Sto → KE → XP → Prop
/-- a def's promise over data, as one over values -/
def spOf (K : PySem.W.Frag) (F : FS) : Sp := fun vs H Q E => ∃ ds S Q' E', RVs K H vs ds ∧ RS K H S ∧ F ds S Q' E' ∧ (∀ d S' v H', Q' d S' → TK H H' → RV K H' v d → RS K H' S' → Q v H') ∧
  (∀ x S' cls dd H', E' x S' → TK H H' → RX K H' cls dd x → RS K H' S' → E cls dd H')
def callW (F : FS) (ms : List WE) : WE := fun Γ S Q E => argsW ms Γ S (fun ds S1 => F ds S1 Q E) E
/-- a def that stands at a name -/
structure DefOk (X : Cx) (x : Str) (F : FS) : Prop where
  ex : ∃ f fd k ps, X.mg x = some (.ref f) ∧ PySem.W.keepIn X.K (.ref f) = true ∧ FnOk X.prog X.w X.K X.mg X.base (L2N.CX X.prog X.w) k f fd ps (spOf X.K F) ∧ Binds X.K fd ps [] ∧ Room k X.A
theorem pe_callD {x : Str} {p pos : Pos} {e : Expr} {es : List Expr} {F : FS} {f : Expr → WE} (tk : L2N.Takes X W.w) (df : DefOk X x F) (hg : Gl X x) (hdb : (x == ("__debug__" : Str)) = false) (hs : (e :: es).all notStar = true)
    (h : ∀ a ∈ e :: es, PE X a (tI X W (f a))) : PE X (.Call (.Name x p) (e :: es) [] pos) (tI X W (callW F ((e :: es).map f))) := by
  obtain ⟨fa, fd, k, ps, hm, hk, ok, hb, hr⟩ := df.ex
  rw [List.all_cons, Bool.and_eq_true] at hs
  refine pe_imp (pe_callS (E := fun σ cls d H => W.w cls d σ H) ok hr hg hm hk hb (fun σ => L2N.passAt tk σ) (pa_args (by rw [List.all_cons, hs.1, hs.2] <;> rfl) h) hdb (star_of hs.1) ?_) ?_
  · have z := stars_plain (env := X.env) hs.2
    exact backTo_any z
  · intro σ H Q ⟨Γ, S, Q', E', g, rs, hm, hq, hx⟩
    refine ⟨Γ, S, fun ds S1 => F ds S1 Q' E', E', g, rs, hm, fun ds S1 vs H1 hn h1 k1 rvs r1 => ?_, hx⟩
    exact ⟨ds, S1, Q', E', rvs, r1, h1, fun d S' v H' a b c e => hq d S' v H' a (k1.trans b) c e, fun x S' cls dd H' a b c e => hx x S' cls dd H' a (k1.trans b) c e⟩

/-! ### built-in functions -/
def CallD (X : Cx) (k : List D → Sto → KE → Prop) (r : List V → Hp → VK → Prop) : Prop :=
  ∀ {ds : List D} {S : Sto} {Q' : KE} {H : Hp} {vs : List V} {Q : VK}, RS X.K H S → RVs X.K H vs ds → k ds S Q' → Fin1 X Q' H Q → r vs H Q
def bltW (k : List D → Sto → KE → Prop) (ms : List WE) : WE := fun Γ S Q E => argsW ms Γ S (fun ds S1 => k ds S1 Q) E
theorem blt_imp {k : List D → Sto → KE → Prop} {r : List V → Hp → VK → Prop} {n : Nat} {ms : List WE} (hd : CallD X k r) : ∀ σ H Q, tI X W (bltW k ms) σ H Q → tCB r (tAn X W n (argsW ms)) σ H Q :=
  fun σ H Q ⟨Γ, S, Q', E', g, rs, hm, hq, hx⟩ => ⟨Γ, S, fun ds S1 => k ds S1 Q', E', g, rs, hm, fun ds S1 vs H1 hn h1 k1 rvs r1 => hd r1 rvs h1 fun d S' v' H' a b c e => hq d S' v' H' a (k1.trans b) c e, hx⟩
theorem pe_bltD {x : Str} {p pos : Pos} {e : Expr} {es : List Expr} {k : List D → Sto → KE → Prop} {r : List V → Hp → VK → Prop} {id : String} {f : Expr → WE} (hc : CallR X (.builtin id) r) (hd : CallD X k r) (hg : Gl X x) (hm : X.mg x = none) (hv : bootBuiltins x = some (.builtin id))
    (hn : x ≠ "__name__") (hdb : (x == ("__debug__" : Str)) = false) (hs : (e :: es).all notStar = true) (h : ∀ a ∈ e :: es, PE X a (tI X W (f a))) : PE X (.Call (.Name x p) (e :: es) [] pos) (tI X W (bltW k ((e :: es).map f))) := by
  have hs2 := hs
  rw [List.all_cons, Bool.and_eq_true] at hs2
  exact pe_imp (pe_callB hc hg hm hv (pa_args hs h) hn hdb (star_of hs2.1) (backTo_any (stars_plain hs2.2))) (blt_imp hd)
theorem pe_tyD {x : Str} {p pos : Pos} {e : Expr} {es : List Expr} {k : List D → Sto → KE → Prop} {r : List V → Hp → VK → Prop} {id : String} {f : Expr → WE} (hc : CallR X (.type id) r) (hd : CallD X k r) (hg : Gl X x) (hm : X.mg x = none) (hv : bootBuiltins x = some (.type id))
    (hn : x ≠ "__name__") (hdb : (x == ("__debug__" : Str)) = false) (hs : (e :: es).all notStar = true) (h : ∀ a ∈ e :: es, PE X a (tI X W (f a))) : PE X (.Call (.Name x p) (e :: es) [] pos) (tI X W (bltW k ((e :: es).map f))) := by
  have hs2 := hs
  rw [List.all_cons, Bool.and_eq_true] at hs2
  exact pe_imp (pe_callTy hc hg hm hv (pa_args hs h) hn hdb (star_of hs2.1) (backTo_any (stars_plain hs2.2))) (blt_imp hd)

theorem rvs1 {K H vs d} (r : RVs K H vs [d]) : ∃ v, vs = [v] ∧ RV K H v d := by
  cases r with | cons r t => cases t; exact ⟨_, rfl, r⟩
theorem rvs2 {K H vs d e} (r : RVs K H vs [d, e]) : ∃ v w, vs = [v, w] ∧ RV K H v d ∧ RV K H w e := by
  cases r with | cons r t => cases t with | cons q u => cases u; exact ⟨_, _, rfl, r, q⟩
def absW (ds : List D) (S : Sto) (Q : KE) : Prop := match ds with | [.int i] => Q (.int (i.natAbs : Int)) S | _ => False
theorem cd_abs : CallD X absW (fun xs H Q => ∃ i, xs = [.int i] ∧ Q (.int (if i < 0 then -i else i)) H) := by
  intro ds S Q' H vs Q rs rvs h fin
  unfold absW at h
  split at h
  · rename_i i
    obtain ⟨v, rfl, rv⟩ := rvs1 rvs
    cases rv_int rv
    have e : (if i < 0 then -i else i) = (i.natAbs : Int) := by split <;> omega
    exact ⟨_, rfl, by rw [e]; exact fin _ _ _ _ h TK.refl .int rs⟩
  · cases h
def lenW (ds : List D) (S : Sto) (Q : KE) : Prop := match ds with
  | [.tup xs] => Q (.int xs.length) S
  | [.ref a] => (match S a with | some (.lst xs) => Q (.int xs.length) S | some (.scr xs) => Q (.int xs.length) S | some (.dK kvs) => Q (.int kvs.length) S | _ => False)
  | [.str z] => z.length ≤ sizeLine ∧ Q (.int z.length) S
  | _ => False
theorem cd_len : CallD X lenW (fun xs H Q => (∃ p ys, xs = [.ref p] ∧ (SqL X.K H p ys ∨ SqT X.K H p ys) ∧ Q (.int ys.length) H) ∨ ((∃ z, xs = [.str z] ∧ z.length ≤ sizeLine ∧ Q (.int z.length) H) ∨ ∃ d kvs, xs = [.ref d] ∧ H d = some (.dK kvs) ∧ Q (.int kvs.length) H)) := by
  intro ds S Q' H vs Q rs rvs h fin
  unfold lenW at h
  split at h
  · obtain ⟨v, rfl, rv⟩ := rvs1 rvs
    obtain ⟨a, ws, rfl, ha, ra⟩ := rv_tup rv
    exact .inl ⟨a, ws, rfl, .inr ha, by rw [ra.len]; exact fin _ _ _ _ h TK.refl .int rs⟩
  · obtain ⟨v, rfl, rv⟩ := rvs1 rvs
    cases rv_ref rv
    split at h
    · rename_i e
      obtain ⟨ws, ha, ra⟩ := rs.rd (.inl e)
      exact .inl ⟨_, ws, rfl, .inl ha, by rw [ra.len]; exact fin _ _ _ _ h TK.refl .int rs⟩
    · rename_i e
      obtain ⟨ws, ha, ra⟩ := rs.rd (.inr e)
      exact .inl ⟨_, ws, rfl, .inl ha, by rw [ra.len]; exact fin _ _ _ _ h TK.refl .int rs⟩
    · rename_i kvs e
      obtain ⟨ws, ha, ra⟩ := rs _ _ e
      exact .inr (.inr ⟨_, ws, rfl, ha, by rw [Paired.length ra]; exact fin _ _ _ _ h TK.refl .int rs⟩)
    · cases h
  · obtain ⟨v, rfl, rv⟩ := rvs1 rvs
    cases rv_str rv
    exact .inr (.inl ⟨_, rfl, h.1, fin _ _ _ _ h.2 TK.refl .int rs⟩)
  · cases h
/-- isinstance(x, T), T a built-in class -/
def isiB (S : Sto) (t : Bt) (x : D) : Option Bool := match x with
  | .non => some false
  | .bl _ => some (match t with | .int => true | .bool => true | _ => false)
  | .int _ => some (match t with | .int => true | _ => false)
  | .str _ => some (match t with | .str => true | _ => false)
  | .tup _ => some (match t with | .tuple => true | _ => false)
  | .ref a => (match S a with
    | some (.lst _) => some (match t with | .list => true | _ => false)
    | some (.scr _) => some (match t with | .list => true | _ => false)
    | some (.dK _) => some (match t with | .dict => true | _ => false)
    | some (.dT _) => some (match t with | .dict => true | _ => false)
    | _ => none)
  | _ => none
def isiW (ds : List D) (S : Sto) (Q : KE) : Prop := match ds with
  | [x, .ty t] => (match isiB S t x with | some b => Q (.bl b) S | none => False)
  | _ => False
theorem kitB_all : ∀ b : Bt, kitB "NoneType" b.name = some false ∧ kitB "bool" b.name = some (match b with | .int => true | .bool => true | _ => false) ∧ kitB "int" b.name = some (match b with | .int => true | _ => false) ∧
    kitB "str" b.name = some (match b with | .str => true | _ => false) ∧ kitB "tuple" b.name = some (match b with | .tuple => true | _ => false) ∧ kitB "list" b.name = some (match b with | .list => true | _ => false) ∧
    kitB "dict" b.name = some (match b with | .dict => true | _ => false) := by
  intro b; cases b <;> decide +kernel
theorem tyx_tup {K : PySem.W.Frag} {H : Hp} {a : Addr} {xs : List V} (h : SqT K H a xs) : TyX K H (.ref a) (.type "tuple") := by
  rcases h with (h | ⟨o, h⟩) | ⟨o, its, n, hk, hc, _⟩
  · exact .base (.tup h)
  · exact .fTuple h
  · exact .kTuple hk hc
theorem cd_isi : CallD X isiW (rIsi X.K) := by
  intro ds S Q' H vs Q rs rvs h fin
  unfold isiW at h
  split at h
  · rename_i x t
    obtain ⟨v, w, rfl, rv, rw'⟩ := rvs2 rvs
    cases rv_ty rw'
    split at h
    · rename_i b e
      obtain ⟨k0, k1, k2, k3, k4, k5, k6⟩ := kitB_all t
      have fin' := fin _ _ _ _ h TK.refl .bl rs
      unfold isiB at e
      split at e
      · cases e; cases rv_non rv; exact ⟨_, _, _, _, _, rfl, .ty _, .base .non, kit_ty k0, fin'⟩
      · cases e; cases rv_bl rv; exact ⟨_, _, _, _, _, rfl, .ty _, .base (.bl _), kit_ty k1, fin'⟩
      · cases e; cases rv_int rv; exact ⟨_, _, _, _, _, rfl, .ty _, .base (.int _), kit_ty k2, fin'⟩
      · cases e; cases rv_str rv; exact ⟨_, _, _, _, _, rfl, .ty _, .base (.str _), kit_ty k3, fin'⟩
      · cases e
        obtain ⟨a, ws, rfl, ha, ra⟩ := rv_tup rv
        exact ⟨_, _, _, _, _, rfl, .ty _, tyx_tup ha, kit_ty k4, fin'⟩
      · cases rv_ref rv
        split at e
        · rename_i q; cases e
          obtain ⟨ws, ha, _⟩ := rs _ _ q
          exact ⟨_, _, _, _, _, rfl, .ty _, .base (.lst ha), kit_ty k5, fin'⟩
        · rename_i q; cases e
          obtain ⟨o, ws, ha, _⟩ := rs _ _ q
          exact ⟨_, _, _, _, _, rfl, .ty _, .base (.frz ha), kit_ty k5, fin'⟩
        · rename_i q; cases e
          obtain ⟨ws, ha, _⟩ := rs _ _ q
          exact ⟨_, _, _, _, _, rfl, .ty _, .base (.dK ha), kit_ty k6, fin'⟩
        · rename_i q; cases e
          obtain ⟨ws, ha, _⟩ := rs _ _ q
          exact ⟨_, _, _, _, _, rfl, .ty _, .base (.dT ha), kit_ty k6, fin'⟩
        · cases e
      · cases e
    · cases h
  · cases h
def asBl : D → Option Bool | .bl b => some b | _ => none
def asIn : D → Option Int | .int b => some b | _ => none
theorem bls_of {K : PySem.W.Frag} {H : Hp} : ∀ {ds : List D} {bs : List Bool} {vs : List V}, allM asBl ds = some bs → RVs K H vs ds → vs = bs.map V.bl
  | [], bs, vs, h, r => by cases r; cases h; rfl
  | d :: ds, bs, vs, h, r => by
    cases r with
    | cons r t =>
      unfold allM at h
      split at h
      · rename_i b bs' h1 h2
        cases h
        cases d <;> cases h1
        cases rv_bl r
        rw [bls_of h2 t] <;> rfl
      · cases h
theorem ins_of {K : PySem.W.Frag} {H : Hp} : ∀ {ds : List D} {bs : List Int} {vs : List V}, allM asIn ds = some bs → RVs K H vs ds → vs = bs.map V.int
  | [], bs, vs, h, r => by cases r; cases h; rfl
  | d :: ds, bs, vs, h, r => by
    cases r with
    | cons r t =>
      unfold allM at h
      split at h
      · rename_i b bs' h1 h2
        cases h
        cases d <;> cases h1
        cases rv_int r
        rw [ins_of h2 t] <;> rfl
      · cases h
def allW (ds : List D) (S : Sto) (Q : KE) : Prop := match ds with
  | [.ref a] => onR S a fun xs => (match allM asBl xs with | some bs => Q (.bl (bs.all id)) S | none => False)
  | _ => False
theorem cd_all : CallD X allW (rAll X.K) := by
  intro ds S Q' H vs Q rs rvs h fin
  unfold allW at h
  split at h
  · obtain ⟨v, rfl, rv⟩ := rvs1 rvs
    cases rv_ref rv
    obtain ⟨xs, hx, h⟩ := onR_get h
    obtain ⟨ws, ha, ra⟩ := rs.rd hx
    split at h
    · rename_i bs e
      have e2 := bls_of e ra
      subst e2
      exact ⟨_, bs, rfl, ha, fin _ _ _ _ h TK.refl .bl rs⟩
    · cases h
  · cases h
def anyW (ds : List D) (S : Sto) (Q : KE) : Prop := match ds with
  | [.ref a] => onR S a fun xs => (match allM asBl xs with | some bs => Q (.bl (bs.any id)) S | none => False)
  | _ => False
theorem cd_any : CallD X anyW (rAny X.K) := by
  intro ds S Q' H vs Q rs rvs h fin
  unfold anyW at h
  split at h
  · obtain ⟨v, rfl, rv⟩ := rvs1 rvs
    cases rv_ref rv
    obtain ⟨xs, hx, h⟩ := onR_get h
    obtain ⟨ws, ha, ra⟩ := rs.rd hx
    split at h
    · rename_i bs e
      have e2 := bls_of e ra
      subst e2
      exact ⟨_, bs, rfl, ha, fin _ _ _ _ h TK.refl .bl rs⟩
    · cases h
  · cases h
def sumW (ds : List D) (S : Sto) (Q : KE) : Prop := match ds with
  | [.ref a] => onR S a fun xs => (match allM asIn xs with | some ns => Q (.int ns.sum) S | none => False)
  | _ => False
theorem cd_sum : CallD X sumW (rSum X.K) := by
  intro ds S Q' H vs Q rs rvs h fin
  unfold sumW at h
  split at h
  · obtain ⟨v, rfl, rv⟩ := rvs1 rvs
    cases rv_ref rv
    obtain ⟨xs, hx, h⟩ := onR_get h
    obtain ⟨ws, ha, ra⟩ := rs.rd hx
    split at h
    · rename_i bs e
      have e2 := ins_of e ra
      subst e2
      exact ⟨_, bs, rfl, ha, fin _ _ _ _ h TK.refl .int rs⟩
    · cases h
  · cases h
def maxW (ds : List D) (S : Sto) (Q : KE) : Prop := match ds with
  | [.int i, .int j] => Q (.int (max i j)) S
  | [.ref a] => onR S a fun xs => (match allM asIn xs with | some ns => 0 < ns.length ∧ ∀ m, m ∈ ns → (∀ y, y ∈ ns → y ≤ m) → Q (.int m) S | none => False)
  | _ => False
def minW (ds : List D) (S : Sto) (Q : KE) : Prop := match ds with
  | [.int i, .int j] => Q (.int (min i j)) S
  | [.ref a] => onR S a fun xs => (match allM asIn xs with | some ns => 0 < ns.length ∧ ∀ m, m ∈ ns → (∀ y, y ∈ ns → m ≤ y) → Q (.int m) S | none => False)
  | _ => False
theorem cd_max : CallD X maxW (fun xs H Q => (∃ i j, xs = [.int i, .int j] ∧ Q (.int (if j > i then j else i)) H) ∨ rMax X.K xs H Q) := by
  intro ds S Q' H vs Q rs rvs h fin
  unfold maxW at h
  split at h
  · rename_i i j
    obtain ⟨v, w, rfl, rv, rw'⟩ := rvs2 rvs
    cases rv_int rv; cases rv_int rw'
    have e : (if j > i then j else i) = max i j := by split <;> omega
    exact .inl ⟨_, _, rfl, by rw [e]; exact fin _ _ _ _ h TK.refl .int rs⟩
  · obtain ⟨v, rfl, rv⟩ := rvs1 rvs
    cases rv_ref rv
    obtain ⟨xs, hx, h⟩ := onR_get h
    obtain ⟨ws, ha, ra⟩ := rs.rd hx
    split at h
    · rename_i bs e
      have e2 := ins_of e ra
      subst e2
      exact .inr ⟨_, bs, rfl, ha, h.1, fun m h1 h2 => fin _ _ _ _ (h.2 m h1 h2) TK.refl .int rs⟩
    · cases h
  · cases h
theorem cd_min : CallD X minW (fun xs H Q => (∃ i j, xs = [.int i, .int j] ∧ Q (.int (if j < i then j else i)) H) ∨ rMin X.K xs H Q) := by
  intro ds S Q' H vs Q rs rvs h fin
  unfold minW at h
  split at h
  · rename_i i j
    obtain ⟨v, w, rfl, rv, rw'⟩ := rvs2 rvs
    cases rv_int rv; cases rv_int rw'
    have e : (if j < i then j else i) = min i j := by split <;> omega
    exact .inl ⟨_, _, rfl, by rw [e]; exact fin _ _ _ _ h TK.refl .int rs⟩
  · obtain ⟨v, rfl, rv⟩ := rvs1 rvs
    cases rv_ref rv
    obtain ⟨xs, hx, h⟩ := onR_get h
    obtain ⟨ws, ha, ra⟩ := rs.rd hx
    split at h
    · rename_i bs e
      have e2 := ins_of e ra
      subst e2
      exact .inr ⟨_, bs, rfl, ha, h.1, fun m h1 h2 => fin _ _ _ _ (h.2 m h1 h2) TK.refl .int rs⟩
    · cases h
  · cases h
def intCW (ds : List D) (S : Sto) (Q : KE) : Prop := match ds with
  | [.int i] => Q (.int i) S
  | [.bl k] => Q (.int (if k then 1 else 0)) S
  | _ => False
theorem cd_int : CallD X intCW (fun xs H Q => (∃ i, xs = [.int i] ∧ Q (.int i) H) ∨ ∃ k, xs = [.bl k] ∧ Q (.int (if k then 1 else 0)) H) := by
  intro ds S Q' H vs Q rs rvs h fin
  unfold intCW at h
  split at h
  · obtain ⟨v, rfl, rv⟩ := rvs1 rvs
    cases rv_int rv
    exact .inl ⟨_, rfl, fin _ _ _ _ h TK.refl .int rs⟩
  · obtain ⟨v, rfl, rv⟩ := rvs1 rvs
    cases rv_bl rv
    exact .inr ⟨_, rfl, fin _ _ _ _ h TK.refl .int rs⟩
  · cases h
def tupleW (ds : List D) (S : Sto) (Q : KE) : Prop := match ds with
  | [.tup xs] => Q (.tup xs) S
  | [.ref a] => onR S a fun xs => Q (.tup xs) S
  | _ => False
theorem cd_tuple : CallD X tupleW (fun xs H Q => ∃ p ys, xs = [.ref p] ∧ ((SqL X.K H p ys ∧ ∀ l, H l = none → Q (.ref l) (upd H l (.tup ys))) ∨ (SqT X.K H p ys ∧ Q (.ref p) H))) := by
  intro ds S Q' H vs Q rs rvs h fin
  unfold tupleW at h
  split at h
  · obtain ⟨v, rfl, rv⟩ := rvs1 rvs
    obtain ⟨a, ws, rfl, ha, ra⟩ := rv_tup rv
    exact ⟨a, ws, rfl, .inr ⟨ha, fin _ _ _ _ h TK.refl rv rs⟩⟩
  · obtain ⟨v, rfl, rv⟩ := rvs1 rvs
    cases rv_ref rv
    obtain ⟨xs, hx, h⟩ := onR_get h
    obtain ⟨ws, ha, ra⟩ := rs.rd hx
    exact ⟨_, ws, rfl, .inl ⟨ha, fun l hl => fin _ _ _ _ h (TK.new hl) (.tup (.inl (.inl upd_same)) (RVs.keep (TK.new hl) ra)) (rs.new hl)⟩⟩
  · cases h
def listW (ds : List D) (S : Sto) (Q : KE) : Prop := match ds with
  | [.tup xs] => ∀ p, S p = none → Q (.ref p) (put S p (.lst xs))
  | [.ref a] => onR S a fun xs => ∀ p, S p = none → Q (.ref p) (put S p (.lst xs))
  | _ => False
theorem cd_list : CallD X listW (fun xs H Q => ∃ p ys, xs = [.ref p] ∧ (SqL X.K H p ys ∨ SqT X.K H p ys) ∧ ∀ l, H l = none → Q (.ref l) (upd H l (.lst ys))) := by
  intro ds S Q' H vs Q rs rvs h fin
  unfold listW at h
  split at h
  · obtain ⟨v, rfl, rv⟩ := rvs1 rvs
    obtain ⟨a, ws, rfl, ha, ra⟩ := rv_tup rv
    exact ⟨a, ws, rfl, .inr ha, fun l hl => fin _ _ _ _ (h l (rs.free hl)) (TK.new hl) .ref (rs.put (TK.new hl) ⟨_, upd_same, RVs.keep (TK.new hl) ra⟩)⟩
  · obtain ⟨v, rfl, rv⟩ := rvs1 rvs
    cases rv_ref rv
    obtain ⟨xs, hx, h⟩ := onR_get h
    obtain ⟨ws, ha, ra⟩ := rs.rd hx
    exact ⟨_, ws, rfl, .inl ha, fun l hl => fin _ _ _ _ (h l (rs.free hl)) (TK.new hl) .ref (rs.put (TK.new hl) ⟨_, upd_same, RVs.keep (TK.new hl) ra⟩)⟩
  · cases h
end Vm
/-! VmE: methods, what is walked, targets, comprehensions, over plain data. -/
namespace Vm
open PySem PySem.Spec PyProof.Rows L2
variable {X : Cx} {W : WP}

/-! ### methods of lists -/
def isL (x : D) (S : Sto) : Prop := match x with
  | .ref a => (match S a with | some (.lst _) => True | some (.scr _) => True | _ => False)
  | _ => False
theorem isL_get {x : D} {S : Sto} (h : isL x S) : ∃ a ds, x = .ref a ∧ (S a = some (.lst ds) ∨ S a = some (.scr ds)) := by
  unfold isL at h
  split at h
  · split at h
    · rename_i e; exact ⟨_, _, rfl, .inl e⟩
    · rename_i e; exact ⟨_, _, rfl, .inr e⟩
    · cases h
  · cases h
/-- a list's method -/
def lmW (k : D → List D → Sto → KE → Prop) (m : WE) (ms : List WE) : WE := fun Γ S Q E => m Γ S (fun x S1 => isL x S1 ∧ argsW ms Γ S1 (fun ds S2 => k x ds S2 Q) E) E
def MethD (X : Cx) (k : D → List D → Sto → KE → Prop) (r : V → List V → Hp → VK → Prop) : Prop :=
  ∀ {x : D} {ds : List D} {S : Sto} {Q' : KE} {H : Hp} {v : V} {vs : List V} {Q : VK}, RS X.K H S → RV X.K H v x → RVs X.K H vs ds → k x ds S Q' → Fin1 X Q' H Q → r v vs H Q
theorem pe_lmD {o e : Expr} {es : List Expr} {name : Str} {apos cpos : Pos} {id : String} {k : D → List D → Sto → KE → Prop} {r : V → List V → Hp → VK → Prop} {f : Expr → WE} (slot : Slot "list" name id) (hty : typeOf (.builtin id) = pure (.type "method_descriptor")) (hm : MtR X id r) (hk : MethD X k r)
    (ho : PE X o (tI X W (f o))) (hs : (e :: es).all notStar = true) (h : ∀ a ∈ e :: es, PE X a (tI X W (f a))) (hbase : attributeBase o name X.env (eval o X.env) = eval o X.env) (hfew : (e :: es).length < 29) (hline : (apos.endLine == cpos.line) = true) :
    PE X (.Call (.Attribute o name apos) (e :: es) [] cpos) (tI X W (lmW k (f o) ((e :: es).map f))) := by
  have hs2 := hs
  rw [List.all_cons, Bool.and_eq_true] at hs2
  have hp := backTo_any (pos := cpos) (stars_plain (env := X.env) hs2.2)
  have hf : ((backTo cpos (starEach (e :: es) X.env)).all (fun x => !x.1) && (backToKw cpos (keywordEach [] X.env)).all (fun x => x.1.isSome) && decide ((e :: es).length + ([] : List Keyword).length + (if ([] : List Keyword).isEmpty then 0 else 1) < 30)) = true := by
    have h1 : (backTo cpos (starEach (e :: es) X.env)).all (fun x => !x.1) = true := by
      rw [List.all_eq_not_any_not]
      have := backTo_any (pos := cpos) (stars_plain (env := X.env) hs)
      simpa using this
    rw [h1]
    have h2 : decide ((e :: es).length + ([] : List Keyword).length + (if ([] : List Keyword).isEmpty then 0 else 1) < 30) = true := by
      apply decide_eq_true
      have z : ([] : List Keyword).isEmpty = true := rfl
      rw [z, if_pos rfl, List.length_nil]
      omega
    rw [h2]
    rfl
  refine pe_imp (pe_bm PySem.F.plainAttrs_list slot hty hm ho (pa_args hs h) hbase hf hline (star_of hs2.1) hp) fun σ H Q ⟨Γ, S, Q', E', g, rs, hm, hq, hx⟩ => ?_
  refine ⟨Γ, S, _, E', g, rs, hm, fun x S1 v H1 h1 k1 rv r1 => ?_, hx⟩
  obtain ⟨hl0, h1⟩ := h1
  obtain ⟨a, ds, rfl, hl⟩ := isL_get hl0
  cases rv_ref rv
  obtain ⟨xs, hx1, _⟩ := r1.rd hl
  refine ⟨.inl ⟨rfl, xs, hx1⟩, Γ, S1, fun ds S2 => k (.ref a) ds S2 Q', E', g.keep k1, r1, h1, fun ds S2 vs H2 hn h2 k2 rvs r2 => ?_, hx.keep k1⟩
  exact hk r2 .ref rvs h2 fun d S3 v3 H3 h3 k3 rv3 r3 => hq _ _ _ _ h3 ((k1.trans k2).trans k3) rv3 r3
def appendW (x : D) (ds : List D) (S : Sto) (Q : KE) : Prop := match x, ds with
  | .ref a, [d] => onL S a fun xs => xs.length < sizeLine ∧ Q .non (put S a (.lst (xs ++ [d])))
  | _, _ => False
theorem tk_lst {H : Hp} {a : Addr} {xs : List V} {o : HO} (h : H a = some (.lst xs)) : TK H (upd H a o) := TK.wr h (fun _ z => nomatch z) (fun _ _ z => nomatch z) (fun _ z => nomatch z)
theorem md_append : MethD X appendW rAppend := by
  intro x ds S Q' H v vs Q rs rv rvs h fin
  unfold appendW at h
  split at h
  · obtain ⟨y, rfl, ry⟩ := rvs1 rvs
    cases rv_ref rv
    obtain ⟨xs, hx, hz, h⟩ := onL_get h
    obtain ⟨ws, ha, ra⟩ := rs.lst hx
    have k := tk_lst (o := .lst (ws ++ [y])) ha
    exact ⟨_, ws, y, rfl, rfl, ha, by rw [ra.len]; exact hz, fin _ _ _ _ h k .non (rs.put k ⟨_, upd_same, RVs.keep k (ra.append (.cons ry .nil))⟩)⟩
  · cases h
def extendW (x : D) (ds : List D) (S : Sto) (Q : KE) : Prop := match x, ds with
  | .ref a, [.ref b] => onL S a fun xs => onL S b fun ys => xs.length + ys.length ≤ sizeLine ∧ Q .non (put S a (.lst (xs ++ ys)))
  | _, _ => False
theorem md_extend : MethD X extendW rExtend := by
  intro x ds S Q' H v vs Q rs rv rvs h fin
  unfold extendW at h
  split at h
  · obtain ⟨y, rfl, ry⟩ := rvs1 rvs
    cases rv_ref rv; cases rv_ref ry
    obtain ⟨xs, hx, h⟩ := onL_get h
    obtain ⟨ys, hy, hz, h⟩ := onL_get h
    obtain ⟨ws, ha, ra⟩ := rs.lst hx
    obtain ⟨us, hb, rb⟩ := rs.lst hy
    have k := tk_lst (o := .lst (ws ++ us)) ha
    exact ⟨_, _, ws, us, rfl, rfl, ha, hb, by rw [ra.len, rb.len]; exact hz, fin _ _ _ _ h k .non (rs.put k ⟨_, upd_same, RVs.keep k (ra.append rb)⟩)⟩
  · cases h
/-- list.count of flat things -/
def rCount (K : PySem.W.Frag) : V → List V → Hp → VK → Prop := fun x xs H Q => ∃ (p : Addr) (ys : List V) (y : V), x = .ref p ∧ xs = [y] ∧ SqL K H p ys ∧ flatV y = true ∧ ys.all flatV = true ∧ Q (.int (ys.countP (fun z => eqV z y) : Nat)) H
theorem count_eqU {y : V} : ∀ {ys : List V} {us : List Value}, Vals ys us → ys.all flatV = true → us.countP (eqU y) = ys.countP (fun z => eqV z y)
  | _, _, .nil, _ => rfl
  | _, _, .cons r t, f => by
    rw [List.all_cons, Bool.and_eq_true] at f
    rw [List.countP_cons, List.countP_cons, count_eqU t f.2, eqU_of r f.1]
theorem mt_count : MtR X "list.count" (rCount X.K) := by
  intro pins s σ H x xs v us Q I rx rxs h
  obtain ⟨p, ys, y, rfl, rfl, hs, fy, fys, q⟩ := h
  cases rx
  obtain ⟨u, rfl, ru⟩ := rxs.one
  obtain ⟨its, rv, ⟨⟨cls, dd, data, sl⟩, n, ho, hc, hdn, hd⟩, hlen⟩ := I.list hs
  simp only at hc hd
  subst hc hd
  refine call_meets PySem.F.slot_list_count ⟨_, ho, rfl⟩ PySem.F.entry_list_count (PySem.F.args_list_count_2 _ _)
    (SeqAt.list_countAt p its.toArray n dd sl u (eqU y)) ⟨ho, fun z hz => mem_eqAt ru fy rv fys z (by simpa using hz), ?_⟩
  have ec : its.toArray.toList.countP (eqU y) = ys.countP (fun z => eqV z y) := count_eqU rv fys
  first
    | (rw [ec]; exact ⟨.int _, H, I.tok _, ⟨_, rfl⟩, q⟩)
    | (simp only [ec]; exact ⟨.int _, H, I.tok _, ⟨_, rfl⟩, q⟩)
theorem countF_of {K : PySem.W.Frag} {H : Hp} {u : V} {e : D} (q : RV K H u e) (g : flatD e = true) : ∀ {vs : List V} {ds : List D}, RVs K H vs ds → ds.all flatD = true → vs.countP (fun z => eqV z u) = ds.countP (fun z => eqF z e)
  | _, _, .nil, _ => rfl
  | _, _, .cons r t, f => by
    rw [List.all_cons, Bool.and_eq_true] at f
    rw [List.countP_cons, List.countP_cons, countF_of q g t f.2, eqF_of r q f.1 g]
def countW (x : D) (ds : List D) (S : Sto) (Q : KE) : Prop := match x, ds with
  | .ref a, [d] => onR S a fun xs => flatD d = true ∧ xs.all flatD = true ∧ Q (.int (xs.countP (fun z => eqF z d) : Nat)) S
  | _, _ => False
theorem md_count : MethD X countW (rCount X.K) := by
  intro x ds S Q' H v vs Q rs rv rvs h fin
  unfold countW at h
  split at h
  · obtain ⟨y, rfl, ry⟩ := rvs1 rvs
    cases rv_ref rv
    obtain ⟨xs, hx, h1, h2, h3⟩ := onR_get h
    obtain ⟨ws, ha, ra⟩ := rs.rd hx
    exact ⟨_, ws, y, rfl, rfl, ha, flat_of ry h1, flats_of ra h2, by rw [countF_of ry h1 ra h2]; exact fin _ _ _ _ h3 TK.refl .int rs⟩
  · cases h
def firstF (d : D) (xs : List D) : Option Nat := xs.findIdx? fun z => eqF z d
def indexW (x : D) (ds : List D) (S : Sto) (Q : KE) : Prop := match x, ds with
  | .ref a, [d] => onR S a fun xs => flatD d = true ∧ xs.all flatD = true ∧ (match firstF d xs with | some j => Q (.int (j : Nat)) S | none => False)
  | _, _ => False
theorem md_index : MethD X indexW (rIndex X.K) := by
  intro x ds S Q' H v vs Q rs rv rvs h fin
  unfold indexW at h
  split at h
  · rename_i d
    obtain ⟨y, rfl, ry⟩ := rvs1 rvs
    cases rv_ref rv
    obtain ⟨xs, hx, h1, h2, h3⟩ := onR_get h
    obtain ⟨ws, ha, ra⟩ := rs.rd hx
    split at h3
    · rename_i j e
      unfold firstF at e
      rw [List.findIdx?_eq_some_iff_getElem] at e
      obtain ⟨hj, hp, hno⟩ := e
      obtain ⟨z, hz, rz⟩ := ra.at (List.getElem?_eq_getElem hj)
      refine ⟨_, ws, y, j, z, rfl, rfl, ha, flat_of ry h1, flats_of ra h2, hz, ?_, fun m z' hm hz' => ?_, fin _ _ _ _ h3 TK.refl .int rs⟩
      · rw [eqF_of rz ry (List.all_eq_true.mp h2 _ (List.getElem_mem hj)) h1]
        exact hp
      · obtain ⟨d', hd', rd'⟩ := ra.at' hz'
        rw [eqF_of rd' ry (List.all_eq_true.mp h2 _ (List.mem_of_getElem? hd')) h1]
        have hml : m < xs.length := (List.getElem?_eq_some_iff.mp hd').1
        have := hno m hm
        have e2 : xs[m] = d' := (List.getElem?_eq_some_iff.mp hd').2
        rw [e2] at this
        simpa using this
    · cases h3
  · cases h

/-! ### targets -/
inductive Tg where
  | nm (i : Nat)
  | tp (ts : List Tg)
mutual
def tgU (S : Sto) : Tg → D → Option (List (Nat × D))
  | .nm i, d => some [(i, d)]
  | .tp ts, d => match d with
    | .tup ds => tgUs S ts ds
    | .ref a => (match S a with | some (.lst ds) => tgUs S ts ds | some (.scr ds) => tgUs S ts ds | _ => none)
    | _ => none
def tgUs (S : Sto) : List Tg → List D → Option (List (Nat × D))
  | [], [] => some []
  | t :: ts, d :: ds => (match tgU S t d, tgUs S ts ds with | some a, some b => some (a ++ b) | _, _ => none)
  | _, _ => none
end
def setU (Γ : Gam) : List (Nat × D) → Gam
  | [] => Γ
  | p :: r => setU (Γ.set p.1 (some p.2)) r
def setV (σ : St) : List (Nat × V) → St
  | [] => σ
  | p :: r => setV (σ.set p.1 (some p.2)) r
theorem setV_append {σ : St} : ∀ {a b : List (Nat × V)}, setV σ (a ++ b) = setV (setV σ a) b
  | [], _ => rfl
  | p :: r, b => setV_append (σ := σ.set p.1 (some p.2)) (a := r) (b := b)
abbrev UpR (K : PySem.W.Frag) (H : Hp) : List (Nat × V) → List (Nat × D) → Prop := Paired fun (p : Nat × V) (q : Nat × D) => p.1 = q.1 ∧ RV K H p.2 q.2
theorem upR_app {K : PySem.W.Frag} {H : Hp} : ∀ {a c : List (Nat × V)} {b d : List (Nat × D)}, UpR K H a b → UpR K H c d → UpR K H (a ++ c) (b ++ d)
  | _, _, _, _, .nil, s => s
  | _, _, _, _, .cons r t, s => .cons r (upR_app t s)
theorem rg_setU {K : PySem.W.Frag} {pn : Pn} {H : Hp} : ∀ {ws : List (Nat × V)} {ups : List (Nat × D)} {σ : St} {Γ : Gam}, UpR K H ws ups → RG K pn H σ Γ → RG K pn H (setV σ ws) (Vm.setU Γ ups)
  | _, _, _, _, .nil, g => g
  | (i, v) :: ws, (j, d) :: ups, σ, Γ, .cons r t, g => by
    obtain ⟨e, r⟩ := r
    have e : i = j := e
    subst e
    exact rg_setU (ws := ws) (ups := ups) t (g.set r)
def gTg (X : Cx) (t : Tg) : TG := fun v σ H Q => ∃ d S ups, RV X.K H v d ∧ RS X.K H S ∧ tgU S t d = some ups ∧ ∀ ws, UpR X.K H ws ups → Q (setV σ ws) H
def gTgs (X : Cx) (ts : List Tg) : TGs := fun vs σ H Q => ∃ ds S ups, RVs X.K H vs ds ∧ RS X.K H S ∧ tgUs S ts ds = some ups ∧ ∀ ws, UpR X.K H ws ups → Q (setV σ ws) H
theorem pgs_imp {es : List Expr} {t t' : TGs} (h : PGs X es t) (i : ∀ v σ H Q, t' v σ H Q → t v σ H Q) : PGs X es t' := ⟨fun pins s σ H v u Q I r q => h.run pins s σ H v u Q I r (i v σ H Q q)⟩
theorem pg_or {tg : Expr} {t t' : TG} (h : PG X tg t) (h' : PG X tg t') : PG X tg (fun v σ H Q => t v σ H Q ∨ t' v σ H Q) :=
  ⟨fun pins s σ H v u Q I r q => q.elim (h.run pins s σ H v u Q I r) (h'.run pins s σ H v u Q I r)⟩
theorem pg_nm {i : Nat} {e : Expr} (h : PG X e (gName i)) : PG X e (gTg X (.nm i)) :=
  pg_imp h fun v σ H Q ⟨d, S, ups, rv, rs, e, k⟩ => by
    unfold tgU at e
    cases e
    exact k [(i, v)] (.cons ⟨rfl, rv⟩ .nil)
theorem tgUs_cons {S : Sto} {t : Tg} {ts : List Tg} {ds : List D} {ups : List (Nat × D)} (h : tgUs S (t :: ts) ds = some ups) : ∃ d r a b, ds = d :: r ∧ tgU S t d = some a ∧ tgUs S ts r = some b ∧ ups = a ++ b := by
  cases ds with
  | nil => unfold tgUs at h; cases h
  | cons d r =>
    unfold tgUs at h
    split at h
    · rename_i a b h1 h2
      cases h
      exact ⟨d, r, a, b, rfl, h1, h2, rfl⟩
    · cases h
theorem assign_cons {e : Expr} {es : List Expr} {env : Env} (h : notStar e = true) : (assignEach (e :: es) env) = (false, assign e env) :: assignEach es env := by
  cases e <;> first | rfl | cases h
theorem assign_len {env : Env} : ∀ {es : List Expr}, es.all notStar = true → (assignEach es env).length = es.length ∧ (assignEach es env).findIdx? (·.1) = none
  | [], _ => ⟨rfl, rfl⟩
  | e :: es, h => by
    rw [List.all_cons, Bool.and_eq_true] at h
    obtain ⟨h1, h2⟩ := assign_len (env := env) h.2
    rw [assign_cons h.1]
    refine ⟨by rw [List.length_cons, h1, List.length_cons], ?_⟩
    rw [List.findIdx?_cons, h2] <;> rfl
theorem pgs_tgs {f : Expr → Option Tg} : ∀ {es : List Expr} {ts : List Tg}, es.all notStar = true → allM f es = some ts → (∀ e ∈ es, ∀ t, f e = some t → PG X e (gTg X t)) → PGs X es (gTgs X ts)
  | [], ts, _, h, _ => by
    cases h
    refine pgs_imp pgs_nil fun v σ H Q ⟨ds, S, ups, rv, rs, e, k⟩ => ?_
    cases ds with
    | nil => unfold tgUs at e; cases e; cases rv; exact ⟨rfl, k [] .nil⟩
    | cons d r => unfold tgUs at e; cases e
  | e :: es, ts, hs, h, hf => by
    rw [List.all_cons, Bool.and_eq_true] at hs
    unfold allM at h
    split at h
    · rename_i t ts' h1 h2
      cases h
      refine pgs_imp (pgs_cons (hf e (by simp) t h1) (pgs_tgs hs.2 h2 fun e' he => hf e' (List.mem_cons_of_mem _ he)) (by rw [assign_cons hs.1] <;> rfl)) fun vs σ H Q ⟨ds, S, ups, rv, rs, e, k⟩ => ?_
      obtain ⟨d, r, a, b, rfl, ha, hb, rfl⟩ := tgUs_cons e
      cases rv with
      | cons r1 rr =>
        refine ⟨_, _, rfl, d, S, a, r1, rs, ha, fun w1 u1 => ⟨r, S, b, rr, rs, hb, fun w2 u2 => ?_⟩⟩
        rw [← setV_append]
        exact k _ (upR_app u1 u2)
    · cases h
theorem tgUs_len {S : Sto} : ∀ {ts : List Tg} {ds : List D} {ups : List (Nat × D)}, tgUs S ts ds = some ups → ds.length = ts.length
  | [], [], _, _ => rfl
  | [], _ :: _, _, h => by unfold tgUs at h; cases h
  | t :: ts, ds, ups, h => by
    obtain ⟨d, r, a, b, rfl, ha, hb, rfl⟩ := tgUs_cons h
    rw [List.length_cons, List.length_cons, tgUs_len hb]
theorem allM_len {α β : Type} {f : α → Option β} : ∀ {l : List α} {r : List β}, allM f l = some r → r.length = l.length
  | [], r, h => by cases h; rfl
  | a :: l, r, h => by
    unfold allM at h
    split at h
    · rename_i b bs h1 h2
      cases h
      rw [List.length_cons, List.length_cons, allM_len h2]
    · cases h
theorem pg_tp {f : Expr → Option Tg} {es : List Expr} {ts : List Tg} {k : Nat} {pos : Pos} (hc : X.calm = true) (hs : es.all notStar = true) (h : allM f es = some ts) (hf : ∀ e ∈ es, ∀ t, f e = some t → PG X e (gTg X t)) : PG X (.Tuple es k pos) (gTg X (.tp ts)) := by
  have P := pgs_tgs (X := X) hs h hf
  obtain ⟨l1, l2⟩ := assign_len (env := X.env) hs
  refine pg_imp (pg_or (pg_tup hc P l1 l2) (pg_lst hc P l1 l2)) fun v σ H Q ⟨d, S, ups, rv, rs, e, k⟩ => ?_
  have hl := allM_len h
  unfold tgU at e
  split at e
  · obtain ⟨a, vs, rfl, ha, ra⟩ := rv_tup rv
    exact .inl ⟨a, vs, rfl, ha, by rw [ra.len, tgUs_len e, hl], _, S, ups, ra, rs, e, k⟩
  · cases rv_ref rv
    split at e
    · rename_i q
      obtain ⟨vs, ha, ra⟩ := rs.rd (.inl q)
      exact .inr ⟨_, vs, rfl, ha, by rw [ra.len, tgUs_len e, hl], _, S, ups, ra, rs, e, k⟩
    · rename_i q
      obtain ⟨vs, ha, ra⟩ := rs.rd (.inr q)
      exact .inr ⟨_, vs, rfl, ha, by rw [ra.len, tgUs_len e, hl], _, S, ups, ra, rs, e, k⟩
    · cases e
  · cases e

/-! ### what is walked -/
abbrev WI := Gam → Sto → (List D → (Sto → Prop) → Sto → Prop) → XP → Prop
structure PlanOk (K : PySem.W.Frag) (ds : List D) (ok : Sto → Prop) (J : It) (H0 : Hp) : Prop where
  go : ∀ i H S d, TK H0 H → RS K H S → ok S → ds[i]? = some d → J.go i H ∧ ∀ x H', J.yld i H x H' → TK H H' ∧ RV K H' x d ∧ ∀ S, RS K H S → RS K H' S
  stop : ∀ i H S, TK H0 H → RS K H S → ok S → ds.length ≤ i → J.stop i H
def tIt (X : Cx) (W : WP) (m : WI) : TI := fun σ H R => ∃ Γ S Q' E', RG X.K W.pn H σ Γ ∧ RS X.K H S ∧ m Γ S Q' E' ∧ (∀ ds ok S' J H', Q' ds ok S' → TK H H' → RS X.K H' S' → PlanOk X.K ds ok J H' → R J H') ∧ XOk X W E' σ H
theorem pi_imp {tg iter : Expr} {t t' : TI} (h : PI X tg iter t) (i : ∀ σ H R, t' σ H R → t σ H R) : PI X tg iter t' := ⟨fun pins s σ H R I q => h.run pins s σ H R I (i σ H R q)⟩
def stuckI : WI := fun _ _ _ _ => False
theorem pi_stuck {tg e : Expr} : PI X tg e (tIt X W stuckI) := ⟨fun _ _ _ _ _ _ h => by obtain ⟨_, _, _, _, _, _, h, _⟩ := h; exact h.elim⟩
def intsD (lo : Int) (n : Nat) : List D := (List.range n).map fun i => .int (lo + (i : Nat))
theorem plan_rng {K : PySem.W.Frag} {lo : Int} {n : Nat} {H : Hp} : PlanOk K (intsD lo n) (fun _ => True) (Itr lo n) H where
  go := fun i H S d k rs _ e => by
    unfold intsD at e
    rw [List.getElem?_map] at e
    by_cases hi : i < n
    · rw [List.getElem?_range hi] at e
      cases e
      exact ⟨hi, fun x H' y => by obtain ⟨rfl, rfl⟩ := y; exact ⟨TK.refl, .int, fun _ h => h⟩⟩
    · rw [List.getElem?_eq_none (by simpa using hi)] at e
      cases e
  stop := fun i H S k rs _ e => by
    unfold intsD at e
    rw [List.length_map, List.length_range] at e
    exact e
theorem plan_lst {K : PySem.W.Frag} {a : Addr} {ds : List D} {H : Hp} : PlanOk K ds (fun S => S a = some (.lst ds) ∨ S a = some (.scr ds)) (Itl K a) H where
  go := fun i H S d k rs ok e => by
    obtain ⟨xs, hx, rx⟩ := rs.rd ok
    obtain ⟨v, hv, rv⟩ := rx.at e
    exact ⟨⟨xs, v, hx, hv⟩, fun x H' y => by
      obtain ⟨rfl, y⟩ := y
      have z := y xs hx
      rw [hv] at z
      cases z
      exact ⟨TK.refl, rv, fun _ h => h⟩⟩
  stop := fun i H S k rs ok e => by
    obtain ⟨xs, hx, rx⟩ := rs.rd ok
    exact ⟨xs, hx, by rw [rx.len]; exact e⟩
theorem plan_tup {K : PySem.W.Frag} {a : Addr} {vs : List V} {ds : List D} {H0 : Hp} (h : SqT K H0 a vs) (r : RVs K H0 vs ds) : PlanOk K ds (fun _ => True) (Itt K a) H0 where
  go := fun i H S d k rs _ e => by
    obtain ⟨v, hv, rv⟩ := r.at e
    exact ⟨⟨vs, v, k.sqt h, hv⟩, fun x H' y => by
      obtain ⟨rfl, y⟩ := y
      have z := y vs (k.sqt h)
      rw [hv] at z
      cases z
      exact ⟨TK.refl, rv.keep k, fun _ h => h⟩⟩
  stop := fun i H S k rs _ e => ⟨vs, k.sqt h, by rw [r.len]; exact e⟩
def rngW (ms : List WE) : WI := fun Γ S Q E => argsW ms Γ S (fun ds S1 => match ds with
  | [.int j] => (-(2 ^ 62) ≤ j ∧ j < 2 ^ 62) ∧ Q (intsD 0 j.toNat) (fun _ => True) S1
  | [.int i, .int j] => (-(2 ^ 62) ≤ i ∧ i < 2 ^ 62 ∧ -(2 ^ 62) ≤ j ∧ j < 2 ^ 62) ∧ Q (intsD i (j - i).toNat) (fun _ => True) S1
  | _ => False) E
theorem pi_rng1 {tg a : Expr} {p pos : Pos} {f : Expr → WE} (hg : Gl X "range") (hm : X.mg "range" = none) (hs : notStar a = true) (h : PE X a (tI X W (f a))) : PI X tg (.Call (.Name "range" p) [a] [] pos) (tIt X W (rngW ([a].map f))) := by
  refine pi_imp (pi_range1 hg hm (pa_args (f := f) (es := [a]) (by rw [List.all_cons, hs] <;> rfl) (fun e he => by cases List.mem_singleton.mp he; exact h)) (by rw [star_of hs] <;> rfl)) fun σ H R ⟨Γ, S, Q', E', g, rs, hm, hq, hx⟩ => ?_
  unfold rngW at hm
  refine ⟨Γ, S, _, E', g, rs, hm, fun ds S1 vs H1 hn h1 k1 rvs r1 => ?_, hx⟩
  match ds, hn with
  | [d], _ =>
    obtain ⟨v, rfl, rv⟩ := rvs1 rvs
    cases d with
    | int j =>
      cases rv_int rv
      obtain ⟨⟨b1, b2⟩, h1⟩ := h1
      exact ⟨j, rfl, b1, b2, hq _ _ _ _ _ h1 k1 r1 plan_rng⟩
    | _ => exact h1.elim
theorem pi_rng2 {tg a b : Expr} {p pos : Pos} {f : Expr → WE} (hg : Gl X "range") (hm : X.mg "range" = none) (hs : notStar a = true) (hs2 : notStar b = true) (h : PE X a (tI X W (f a))) (h2 : PE X b (tI X W (f b))) : PI X tg (.Call (.Name "range" p) [a, b] [] pos) (tIt X W (rngW ([a, b].map f))) := by
  refine pi_imp (pi_range2 hg hm (pa_args (f := f) (es := [a, b]) (by rw [List.all_cons, List.all_cons, hs, hs2] <;> rfl) (fun e he => by
    rcases List.mem_cons.mp he with rfl | he
    · exact h
    · cases List.mem_singleton.mp he; exact h2)) (by rw [star_of hs, star_of hs2] <;> rfl) (by rw [star_of hs2] <;> rfl)) fun σ H R ⟨Γ, S, Q', E', g, rs, hm, hq, hx⟩ => ?_
  unfold rngW at hm
  refine ⟨Γ, S, _, E', g, rs, hm, fun ds S1 vs H1 hn h1 k1 rvs r1 => ?_, hx⟩
  match ds, hn with
  | [d, e], _ =>
    obtain ⟨v, w, rfl, rv, rw'⟩ := rvs2 rvs
    cases d with
    | int i =>
      cases e with
      | int j =>
        cases rv_int rv
        cases rv_int rw'
        obtain ⟨b, h1⟩ := h1
        exact ⟨i, j, rfl, b, hq _ _ _ _ _ h1 k1 r1 plan_rng⟩
      | _ => exact h1.elim
    | _ => exact h1.elim
/-- a value that is walked: a tuple, a list -/
def itW (m : WE) : WI := fun Γ S Q E => m Γ S (fun d S1 => match d with
  | .tup ds => Q ds (fun _ => True) S1
  | .ref a => onR S1 a fun ds => Q ds (fun S => S a = some (.lst ds) ∨ S a = some (.scr ds)) S1
  | _ => False) E
theorem pi_or {tg e : Expr} {te : TE} (h : PE X e te) : PI X tg e (fun σ H R => te σ H fun x H1 => (∃ a, x = .ref a ∧ (∃ xs, SqL X.K H1 a xs) ∧ R (Itl X.K a) H1) ∨ (∃ a, x = .ref a ∧ (∃ xs, SqT X.K H1 a xs) ∧ R (Itt X.K a) H1)) := by
  refine ⟨fun pins s σ H R I q => ?_⟩
  refine thn (h.run pins s σ H _ I q) fun v s1 ⟨x, H1, I1, r1, q1⟩ => ?_
  rcases q1 with ⟨a, e, ⟨xs, hq⟩, q⟩ | ⟨a, e, ⟨xs, hq⟩, q⟩
  · subst e
    cases r1
    obtain ⟨its, rv, p, hz⟩ := I1.list hq
    refine wpAny_pyIter_list p.isList ?_
    refine ⟨s1.heap.objs.size, [s1.heap.objs.size], _, _, H1, rfl, I1.kept (t' := s1.toks) fun b o e => Heap.get?_push_of_some _ e, turn_list a _, ⟨_, Heap.get?_push_size _ rfl, rfl, rfl⟩, fun b hb => ?_, q⟩
    have e : b = s1.heap.objs.size := by simpa using hb
    subst e
    exact I1.fpOk (Nat.le_refl _) (I1.hok.fresh (Nat.le_refl _))
  · subst e
    cases r1
    obtain ⟨its, rv, p, hz⟩ := I1.tuple hq
    refine wpAny_pyIter_tuple (show s1.heap.IsTuple a its.toArray from p) ?_
    refine ⟨s1.heap.objs.size, [s1.heap.objs.size], _, _, H1, rfl, I1.kept (t' := s1.toks) fun b o e => Heap.get?_push_of_some _ e, turn_tuple a _, ⟨_, Heap.get?_push_size _ rfl, rfl, rfl⟩, fun b hb => ?_, q⟩
    have e : b = s1.heap.objs.size := by simpa using hb
    subst e
    exact I1.fpOk (Nat.le_refl _) (I1.hok.fresh (Nat.le_refl _))
theorem pi_valD {tg e : Expr} {m : WE} (h : PE X e (tI X W m)) : PI X tg e (tIt X W (itW m)) := by
  refine pi_imp (pi_or h) fun σ H R ⟨Γ, S, Q', E', g, rs, hm, hq, hx⟩ => ⟨Γ, S, _, E', g, rs, hm, fun d S1 v H1 h1 k1 rv r1 => ?_, hx⟩
  split at h1
  · obtain ⟨a, vs, rfl, ha, ra⟩ := rv_tup rv
    exact .inr ⟨a, rfl, ⟨vs, ha⟩, hq _ _ _ _ _ h1 k1 r1 (plan_tup ha ra)⟩
  · cases rv_ref rv
    obtain ⟨ds, hd, h1⟩ := onR_get h1
    obtain ⟨vs, ha, ra⟩ := r1.rd hd
    exact .inl ⟨_, rfl, ⟨vs, ha⟩, hq _ _ _ _ _ h1 k1 r1 plan_lst⟩
  · cases h1

/-! ### comprehensions -/
/-- the loop of a comprehension: D the new list -/
def compW (t : Tg) (Γ0 : Gam) (cond : WT) (elt : WE) (ok : Sto → Prop) (D : Addr) (k : Sto → Prop) : List Vm.D → Sto → Prop
  | [], S => ok S ∧ k S
  | d :: ds, S => ok S ∧ (match tgU S t d with
    | some ups => cond (setU Γ0 ups) S (fun b S1 => if b = true then elt (setU Γ0 ups) S1 (fun y S2 => onL S2 D fun acc => acc.length < sizeLine ∧ compW t Γ0 cond elt ok D k ds (put S2 D (.lst (acc ++ [y])))) (fun _ _ => False) else compW t Γ0 cond elt ok D k ds S1) (fun _ _ => False)
    | none => False)
def lcW (mi : WI) (t : Tg) (own : List Nat) (cond : WT) (elt : WE) : WE := fun Γ S Q E => mi Γ S (fun ds ok S1 => ∀ D, S1 D = none → compW t (clean (wipeG Γ own)) cond elt ok D (fun S => Q (.ref D) S) ds (put S1 D (.lst []))) E
mutual
def Tg.slots : Tg → List Nat
  | .nm i => [i]
  | .tp ts => slotss ts
def slotss : List Tg → List Nat
  | [] => []
  | t :: ts => t.slots ++ slotss ts
end
mutual
theorem ups_in {S : Sto} : ∀ {t : Tg} {d : D} {ups : List (Nat × D)}, tgU S t d = some ups → ∀ p ∈ ups, p.1 ∈ t.slots
  | .nm i, d, ups, h => by
    unfold tgU at h
    cases h
    intro p hp
    cases List.mem_singleton.mp hp
    unfold Tg.slots
    simp
  | .tp ts, d, ups, h => by
    unfold tgU at h
    unfold Tg.slots
    split at h
    · exact upss_in h
    · split at h
      · exact upss_in h
      · exact upss_in h
      · cases h
    · cases h
theorem upss_in {S : Sto} : ∀ {ts : List Tg} {ds : List D} {ups : List (Nat × D)}, tgUs S ts ds = some ups → ∀ p ∈ ups, p.1 ∈ slotss ts
  | [], [], ups, h => by
    unfold tgUs at h
    cases h
    intro p hp
    cases hp
  | [], d :: ds, ups, h => by
    unfold tgUs at h
    cases h
  | t :: ts, ds, ups, h => by
    obtain ⟨d, r, a, b, rfl, ha, hb, rfl⟩ := tgUs_cons h
    intro p hp
    unfold slotss
    rcases List.mem_append.mp hp with hp | hp
    · exact List.mem_append_left _ (ups_in ha p hp)
    · exact List.mem_append_right _ (upss_in hb p hp)
end
theorem wipe_set {σ : St} {i : Nat} {o : Option V} : ∀ {vs : List Nat}, i ∈ vs → L2.wipe (σ.set i o) vs = L2.wipe σ vs
  | v :: vs, h => by
    unfold L2.wipe
    by_cases e : i = v
    · subst e
      by_cases h2 : i ∈ vs
      · rw [wipe_set h2]
      · have c : ∀ {us : List Nat}, i ∉ us → L2.wipe (σ.set i o) us = (L2.wipe σ us).set i o := fun {us} => by
          induction us with
          | nil => intro _; rfl
          | cons u us ih =>
            intro hn
            have h1 : i ≠ u := fun z => hn (by simp [z])
            have h2 : i ∉ us := fun z => hn (by simp [z])
            unfold L2.wipe
            rw [ih h2, List.set_comm _ _ h1]
        rw [c h2, List.set_set]
    · have h2 : i ∈ vs := by
        rcases List.mem_cons.mp h with z | z
        · exact absurd z e
        · exact z
      rw [wipe_set h2]
theorem wipe_setV {vs : List Nat} : ∀ {ws : List (Nat × V)} {σ : St}, (∀ p ∈ ws, p.1 ∈ vs) → L2.wipe (setV σ ws) vs = L2.wipe σ vs
  | [], _, _ => rfl
  | p :: r, σ, h => by
    show L2.wipe (setV (σ.set p.1 (some p.2)) r) vs = _
    rw [wipe_setV fun q hq => h q (List.mem_cons_of_mem _ hq)]
    exact wipe_set (h p (by simp))
theorem upR_in {K : PySem.W.Frag} {H : Hp} {l : List Nat} : ∀ {ws : List (Nat × V)} {ups : List (Nat × D)}, UpR K H ws ups → (∀ p ∈ ups, p.1 ∈ l) → ∀ p ∈ ws, p.1 ∈ l
  | _, _, .nil, _ => fun _ h => nomatch h
  | (i, v) :: _, (j, d) :: _, .cons r t, h => fun p hp => by
    rcases List.mem_cons.mp hp with rfl | hp
    · have e : i = j := r.1
      rw [e]
      exact h (j, d) (by simp)
    · exact upR_in t (fun q hq => h q (List.mem_cons_of_mem _ hq)) p hp
theorem wipe_wipe {σ : St} : ∀ {us : List Nat} (vs : List Nat), (∀ x ∈ us, x ∈ vs) → L2.wipe (L2.wipe σ us) vs = L2.wipe σ vs
  | [], _, _ => rfl
  | u :: us, vs, h => by
    show L2.wipe ((L2.wipe σ us).set u none) vs = _
    rw [wipe_set (h u (by simp)), wipe_wipe vs fun x hx => h x (List.mem_cons_of_mem _ hx)]
abbrev W0 : WP := ⟨fun _ _ _ _ => False, []⟩
theorem xok0 {X : Cx} {σ : St} {H : Hp} : XOk X W0 (fun _ _ => False) σ H := fun _ _ _ _ _ h => h.elim
theorem lc_imp {mi : WI} {t : Tg} {cond : WT} {elt : WE} {vs : List Nat} (ht : ∀ i ∈ t.slots, i ∈ vs) :
    ∀ σ H Q, tI X W (lcW mi t vs cond elt) σ H Q → tLc (tIt X W mi) (gTg X t) (tT X W0 cond) (tI X W0 elt) vs σ H Q := by
  intro σ H Q ⟨Γ, S, Q', E', g, rs, hm, hq, hx⟩
  unfold lcW at hm
  refine ⟨Γ, S, _, E', g, rs, hm, fun ds ok S1 J H1 h1 k1 r1 pl D hD => ?_, hx⟩
  have hc0 := h1 D (r1.free hD)
  refine ⟨fun i m H' => ∃ S', m = ds.length - i ∧ i ≤ ds.length ∧ RS X.K H' S' ∧ TK H1 H' ∧ compW t (clean (wipeG Γ vs)) cond elt ok D (fun S => Q' (.ref D) S) (ds.drop i) S', ⟨ds.length, _, by simp, Nat.zero_le _, r1.put (m := .lst []) (TK.new hD) ⟨[], upd_same, .nil⟩, TK.new hD, by simpa using hc0⟩, ?_⟩
  rintro i m H2 ⟨S2, rfl, hi, r2, k2, hc⟩
  by_cases hlt : i < ds.length
  · rw [List.drop_eq_getElem_cons hlt] at hc
    unfold compW at hc
    obtain ⟨hok, hc⟩ := hc
    split at hc
    · rename_i ups e
      obtain ⟨go, yl⟩ := pl.go i H2 S2 _ k2 r2 hok (List.getElem?_eq_getElem hlt)
      refine .inr ⟨go, fun H' => ∃ S', RS X.K H' S' ∧ TK H1 H' ∧ compW t (clean (wipeG Γ vs)) cond elt ok D (fun S => Q' (.ref D) S) (ds.drop (i + 1)) S', fun H' ⟨S', a, b, c⟩ => ⟨ds.length - (i + 1), by omega, S', rfl, hlt, a, b, c⟩, fun x H3 y => ?_⟩
      obtain ⟨k3, rx, rk⟩ := yl x H3 y
      refine ⟨_, S2, ups, rx, rk S2 r2, e, fun ws uw => ⟨?_, ?_⟩⟩
      · rw [wipe_setV fun p hp => ht _ (upR_in uw (ups_in e) p hp)]
        exact wipe_wipe vs fun _ h => h
      · have gg : RG X.K [] H3 (setV (L2.wipe σ vs) ws) (setU (clean (wipeG Γ vs)) ups) := rg_setU uw (((g.keep ((k1.trans k2).trans k3)).wipe vs).clean)
        refine ⟨_, S2, _, _, gg, rk S2 r2, hc, fun b S4 H4 h4 k4 r4 => ?_, xok0⟩
        cases b with
        | false =>
          rw [if_neg Bool.false_ne_true] at h4 ⊢
          exact ⟨S4, r4, (k2.trans k3).trans k4, h4⟩
        | true =>
          rw [if_pos rfl] at h4 ⊢
          refine ⟨_, S4, _, _, gg.keep k4, r4, h4, fun y S5 v5 H5 h5 k5 rv5 r5 => ?_, xok0⟩
          obtain ⟨acc, ha, hz, hc5⟩ := onL_get h5
          obtain ⟨us, hu, ru⟩ := r5.lst ha
          have k6 := tk_lst (o := .lst (us ++ [v5])) hu
          exact ⟨us, hu, by rw [ru.len]; exact hz, _, r5.put (m := .lst (acc ++ [y])) k6 ⟨_, upd_same, RVs.keep k6 (ru.append (.cons rv5 .nil))⟩, (((k2.trans k3).trans k4).trans k5).trans k6, hc5⟩
    · cases hc
  · have e : i = ds.length := by omega
    subst e
    rw [List.drop_length] at hc
    unfold compW at hc
    exact .inl ⟨pl.stop _ H2 S2 k2 r2 hc.1 (Nat.le_refl _), hq _ _ _ _ hc.2 (k1.trans k2) .ref r2⟩
def notSet : Expr → Bool
  | .Set _ _ _ => false
  | _ => true
theorem folded_of {e : Expr} {env : Env} (h : notSet e = true) : ∀ x, foldedSetIterable e env x = pure x := by
  intro x
  cases e <;> first | rfl | cases h
def yesT : WT := fun _ S Q _ => Q true S
theorem pts_yes : PTs X [] (tT X W yesT) := ⟨fun pins s σ H Q I h => by
  obtain ⟨Γ, S, Q', E', g, rs, hm, hq, hx⟩ := h
  exact pts_nil.run pins s σ H Q I (hq _ _ _ hm TK.refl rs)⟩
end Vm
/-! VmF: statements over plain data. -/
namespace Vm
open PySem PySem.Spec PyProof.Rows L2
variable {X : Cx} {W : WP}

theorem XGOk.at {E' : XG} {H : Hp} (h : XGOk X W E' H) {σ : St} {Γ : Gam} (g : RG X.K W.pn H σ Γ) : XOk X W (fun x S' => E' x Γ S') σ H := fun x S' cls dd H' e k rx rs => h x Γ S' cls dd σ H' e k rx (g.keep k) rs
def stuckS : WS := fun _ _ _ _ => False
theorem ps_stuck {st : Stmt} : PS X st (tS X W stuckS) := ⟨fun _ _ _ _ _ _ h => by obtain ⟨_, _, _, _, _, _, h, _⟩ := h; exact h.elim⟩
def passS : WS := fun Γ S D _ => D.nx Γ S
theorem ps_passD {pos : Pos} : PS X (.Pass pos) (tS X W passS) := ps_imp ps_pass fun D σ H ⟨Γ, S, D', E', g, rs, hm, h1, h2, hx⟩ => h1 _ _ _ _ hm TK.refl g rs
theorem ps_docD {x : Str} {j : Nat} {pos pos' : Pos} : PS X (.Expr (.Constant (.str x) j pos) pos') (tS X W passS) := ps_imp ps_doc fun D σ H ⟨Γ, S, D', E', g, rs, hm, h1, h2, hx⟩ => h1 _ _ _ _ hm TK.refl g rs
def exprS (m : WE) : WS := fun Γ S D E => m Γ S (fun _ S1 => D.nx Γ S1) (fun x S' => E x Γ S')
theorem ps_exprD {e : Expr} {pos : Pos} {m : WE} (h : PE X e (tI X W m)) (hs : swapsWith e none pos.line X.env = pure false) : PS X (.Expr e pos) (tS X W (exprS m)) :=
  ps_imp (ps_expr h hs) fun D σ H ⟨Γ, S, D', E', g, rs, hm, h1, h2, hx⟩ => ⟨Γ, S, _, _, g, rs, hm, fun d S1 v H1 a k rv r1 => h1 _ _ _ _ a k (g.keep k) r1, hx.at g⟩
def retS (m : WE) : WS := fun Γ S D E => m Γ S D.rt (fun x S' => E x Γ S')
theorem ps_retD {e : Expr} {pos : Pos} {m : WE} (h : PE X e (tI X W m)) : PS X (.Return (some e) pos) (tS X W (retS m)) :=
  ps_imp (ps_ret h) fun D σ H ⟨Γ, S, D', E', g, rs, hm, h1, h2, hx⟩ => ⟨Γ, S, _, _, g, rs, hm, fun d S1 v H1 a k rv r1 => h2 _ _ _ _ a k rv r1, hx.at g⟩
def retN : WS := fun _ S D _ => D.rt .non S
theorem ps_retND {pos : Pos} : PS X (.Return none pos) (tS X W retN) := ps_imp ps_retN fun D σ H ⟨Γ, S, D', E', g, rs, hm, h1, h2, hx⟩ => h2 _ _ _ _ hm TK.refl .non rs
def seqW : List WS → WS
  | [] => fun Γ S D _ => D.nx Γ S
  | m :: ms => fun Γ S D E => m Γ S ⟨fun Γ' S' => seqW ms Γ' S' D E, D.rt⟩ E
theorem pss_seq {f : Stmt → WS} : ∀ {sts : List Stmt}, (∀ s ∈ sts, PS X s (tS X W (f s))) → PSs X sts (tS X W (seqW (sts.map f)))
  | [], _ => pss_imp pss_nil fun D σ H ⟨Γ, S, D', E', g, rs, hm, h1, h2, hx⟩ => h1 _ _ _ _ hm TK.refl g rs
  | s :: sts, h => by
    refine pss_imp (pss_cons (h s (by simp)) (pss_seq fun s' hs => h s' (List.mem_cons_of_mem _ hs))) fun D σ H ⟨Γ, S, D', E', g, rs, hm, h1, h2, hx⟩ => ?_
    refine ⟨Γ, S, _, E', g, rs, hm, fun Γ' S' σ' H' a k g' r' => ?_, h2, hx⟩
    exact ⟨Γ', S', D', E', g', r', a, fun Γ2 S2 σ2 H2 a2 k2 g2 r2 => h1 _ _ _ _ a2 (k.trans k2) g2 r2, fun d S2 v H2 a2 k2 rv r2 => h2 _ _ _ _ a2 (k.trans k2) rv r2, hx.keep k⟩
def ifS (c : WT) (a b : WS) : WS := fun Γ S D E => c Γ S (fun t S1 => if t = true then a Γ S1 D E else b Γ S1 D E) (fun x S' => E x Γ S')
theorem ps_ifD' {c : Expr} {a b : List Stmt} {pos : Pos} {mc : WT} {ma mb : WS} (hc : PT X c (tT X W mc)) (ha : PSs X a (tS X W ma)) (hb : PSs X b (tS X W mb)) : PS X (.If c a b pos) (tS X W (ifS mc ma mb)) := by
  refine ps_imp (ps_if hc ha hb) fun D σ H ⟨Γ, S, D', E', g, rs, hm, h1, h2, hx⟩ => ⟨Γ, S, _, _, g, rs, hm, fun t S1 H1 a k r1 => ?_, hx.at g⟩
  cases t with
  | true =>
    rw [if_pos rfl] at a ⊢
    exact ⟨Γ, S1, D', E', g.keep k, r1, a, fun Γ2 S2 σ2 H2 a2 k2 g2 r2 => h1 _ _ _ _ a2 (k.trans k2) g2 r2, fun d S2 v H2 a2 k2 rv r2 => h2 _ _ _ _ a2 (k.trans k2) rv r2, hx.keep k⟩
  | false =>
    rw [if_neg Bool.false_ne_true] at a ⊢
    exact ⟨Γ, S1, D', E', g.keep k, r1, a, fun Γ2 S2 σ2 H2 a2 k2 g2 r2 => h1 _ _ _ _ a2 (k.trans k2) g2 r2, fun d S2 v H2 a2 k2 rv r2 => h2 _ _ _ _ a2 (k.trans k2) rv r2, hx.keep k⟩
/-! ### stores -/
def nmW (t : Tg) : WG := fun d Γ S Q _ => match tgU S t d with | some ups => Q (setU Γ ups) S | none => False
theorem nm_imp {t : Tg} : ∀ v σ H Q, tGt X W (nmW t) v σ H Q → gTg X t v σ H Q := fun v σ H Q ⟨d, Γ, S, Q', E', rv, g, rs, hm, hq, hx⟩ => by
  unfold nmW at hm
  split at hm
  · rename_i ups e
    exact ⟨d, S, ups, rv, rs, e, fun ws uw => hq _ _ _ _ hm TK.refl (rg_setU uw g) rs⟩
  · cases hm
def asgS (m : WE) (tw : WG) : WS := fun Γ S D E => m Γ S (fun d S1 => tw d Γ S1 D.nx E) (fun x S' => E x Γ S')
theorem asg_imp {te : TE} {m : WE} {tw : WG} (hte : ∀ σ H Q, tI X W m σ H Q → te σ H Q) : ∀ D σ H, tS X W (asgS m tw) D σ H → tAsg te (tGt X W tw) D σ H := fun D σ H ⟨Γ, S, D', E', g, rs, hm, h1, h2, hx⟩ =>
  hte σ H _ ⟨Γ, S, _, _, g, rs, hm, fun d S1 v H1 a k rv r1 => ⟨d, Γ, S1, D'.nx, E', rv, g.keep k, r1, a, fun Γ2 S2 σ2 H2 a2 k2 g2 r2 => h1 _ _ _ _ a2 (k.trans k2) g2 r2, hx.keep k⟩, hx.at g⟩
theorem ps_asgD {tg e : Expr} {pos : Pos} {m : WE} {tw : WG} (he : PE X e (tI X W m)) (hg : PG X tg (tGt X W tw)) (hs : swapsWithSole [tg] e pos.line X.env = pure false) (hw : swappedStores [tg] e X.env = pure none) (h1 : (assignEach [tg] X.env).map (·.2) = [assign tg X.env]) :
    PS X (.Assign [tg] e pos) (tS X W (asgS m tw)) := ps_imp (ps_asg he hg hs hw h1) (asg_imp fun _ _ _ h => h)
theorem tasg_nm {te : TE} {i : Nat} : ∀ D σ H, (∀ (Q Q' : VK), (∀ v H, Q v H → Q' v H) → te σ H Q → te σ H Q') → tAsg te (tGt X W (nmW (.nm i))) D σ H → tAsg te (gName i) D σ H := fun D σ H mono h =>
  mono _ _ (fun v H1 q => by
    obtain ⟨d, S, ups, rv, rs, e, k⟩ := nm_imp _ _ _ _ q
    unfold tgU at e
    cases e
    exact k [(i, v)] (.cons ⟨rfl, rv⟩ .nil)) h
theorem tI_mono {m : WE} {σ : St} {H : Hp} {Q Q' : VK} (h : ∀ v H, Q v H → Q' v H) : tI X W m σ H Q → tI X W m σ H Q' := fun ⟨Γ, S, Q1, E', g, rs, hm, hq, hx⟩ => ⟨Γ, S, Q1, E', g, rs, hm, fun d S' v H' a b c e => h _ _ (hq d S' v H' a b c e), hx⟩
theorem ps_setD {i : Nat} {x : Str} {e : Expr} {pos pos' : Pos} {m : WE} (hN : X.N.Nodup) (hi : X.N[i]? = some x) (hx : Loc X.env.scope x) (he : PE X e (tI X W m)) (hs : swapsWith e (some (.Name x pos')) pos.line X.env = pure false)
    (hf : X.fn x = true ∨ X.env.scope.names.lookup x = some .local) : PS X (.Assign [.Name x pos'] e pos) (tS X W (asgS m (nmW (.nm i)))) :=
  ps_imp (ps_set hN hi hx he hs hf) fun D σ H h => tasg_nm D σ H (fun Q Q' f => tI_mono f) (asg_imp (te := tI X W m) (fun _ _ _ h => h) D σ H h)
theorem tLc_mono {mi : WI} {t : Tg} {cond : WT} {elt : WE} {vs : List Nat} {σ : St} {H : Hp} {Q Q' : VK} (h : ∀ v H, Q v H → Q' v H) : tLc (tIt X W mi) (gTg X t) (tT X W0 cond) (tI X W0 elt) vs σ H Q → tLc (tIt X W mi) (gTg X t) (tT X W0 cond) (tI X W0 elt) vs σ H Q' :=
  fun ⟨Γ, S, Q1, E', g, rs, hm, hq, hx⟩ => ⟨Γ, S, Q1, E', g, rs, hm, fun ds ok S' J H' a b c e D hD => by
    obtain ⟨W, h0, hW⟩ := hq ds ok S' J H' a b c e D hD
    exact ⟨W, h0, fun i m H w => (hW i m H w).imp (fun z => ⟨z.1, h _ _ z.2⟩) id⟩, hx⟩
theorem ps_setLcD {i : Nat} {y : Str} {py : Pos} {elt tg iter : Expr} {ifs : List Expr} {scope : Scope} {own : List (Str × Nat)} {pos spos : Pos} {mi : WI} {t : Tg} {cond : WT} {me : WE} (hc : X.calm = true) (hN : X.N.Nodup) (hy : X.N[i]? = some y) (hyl : X.env.scope.names.lookup y = some .local)
    (hsw : swapsWith (.ListComp elt [⟨tg, iter, ifs, 0⟩] scope pos) (some (.Name y py)) spos.line X.env = pure true) (hi : PI X tg iter (tIt X W mi)) (ok : BlkOk X.N X.env.scope scope own) (ht : ∀ j ∈ t.slots, j ∈ own.map (·.2))
    (hg : ∀ (s : Shared) (H : Hp) (C : Addr) (cl : List (Str × Addr)) (fp : List Addr), PG (X.blk s H scope (compEnvC scope cl C X.env) fp) tg (gTg X t)) (hcond : ∀ (s : Shared) (H : Hp) (C : Addr) (cl : List (Str × Addr)) (fp : List Addr), PTs (X.blk s H scope (compEnvC scope cl C X.env) fp) ifs (tT X W0 cond))
    (he : ∀ (s : Shared) (H : Hp) (C : Addr) (cl : List (Str × Addr)) (fp : List Addr), PE (X.blk s H scope (compEnvC scope cl C X.env) fp) elt (tI X W0 me)) (hs : ∀ x, foldedSetIterable iter X.env x = pure x) :
    PS X (.Assign [.Name y py] (.ListComp elt [⟨tg, iter, ifs, 0⟩] scope pos) spos) (tS X W (asgS (lcW mi t (own.map (·.2)) cond me) (nmW (.nm i)))) :=
  ps_imp (ps_setLc hc hN hy hyl hsw hi ok hg hcond he hs) fun D σ H h => tasg_nm D σ H (fun Q Q' f => tLc_mono f) (asg_imp (te := tLc (tIt X W mi) (gTg X t) (tT X W0 cond) (tI X W0 me) (own.map (·.2))) (fun σ H Q z => lc_imp ht σ H Q z) D σ H h)
/-- a, b = x, y : stored from the right -/
theorem ps_parD {i j : Nat} {x y : Str} {a b : Expr} {px py pt : Pos} {kt k2 : Nat} {pt2 pos : Pos} {f : Expr → WE} (hc : X.calm = true) (hN : X.N.Nodup) (hi : X.N[i]? = some x) (hj : X.N[j]? = some y) (hij : i ≠ j)
    (hx : X.env.scope.names.lookup x = some .local) (hy : X.env.scope.names.lookup y = some .local) (hs : [a, b].all notStar = true) (h : ∀ e ∈ [a, b], PE X e (tI X W (f e)))
    (hw : swappedStores [.Tuple [.Name x px, .Name y py] kt pt] (.Tuple [a, b] k2 pt2) X.env = pure (some [x, y])) :
    PS X (.Assign [.Tuple [.Name x px, .Name y py] kt pt] (.Tuple [a, b] k2 pt2) pos) (tS X W (asgS (tupW ([a, b].map f)) (nmW (.tp [.nm i, .nm j])))) := by
  refine ps_imp (ps_par hc hN hi hj hij hx hy (pa_args hs h) hw) fun D σ H ⟨Γ, S, D', E', g, rs, hm, h1, h2, hx⟩ => ?_
  refine ⟨Γ, S, fun ds S1 => nmW (.tp [.nm i, .nm j]) (.tup ds) Γ S1 D'.nx E', _, g, rs, hm, fun ds S1 vs H1 hn a k rvs r1 => ?_, hx.at g⟩
  match ds, hn with
  | [d, e], _ =>
    obtain ⟨v, w, rfl, rv, rw'⟩ := rvs2 rvs
    exact ⟨v, w, rfl, h1 _ _ _ _ a k (((g.keep k).set rv).set rw') r1⟩
theorem ps_par3D {i j l : Nat} {x y z : Str} {a b c : Expr} {px py pz pt : Pos} {kt k2 : Nat} {pt2 pos : Pos} {f : Expr → WE} (hc : X.calm = true) (hN : X.N.Nodup) (hi : X.N[i]? = some x) (hj : X.N[j]? = some y) (hl : X.N[l]? = some z) (hij : i ≠ j) (hil : i ≠ l) (hjl : j ≠ l)
    (hx : X.env.scope.names.lookup x = some .local) (hy : X.env.scope.names.lookup y = some .local) (hz : X.env.scope.names.lookup z = some .local) (hs : [a, b, c].all notStar = true) (h : ∀ e ∈ [a, b, c], PE X e (tI X W (f e)))
    (hw : swappedStores [.Tuple [.Name x px, .Name y py, .Name z pz] kt pt] (.Tuple [a, b, c] k2 pt2) X.env = pure (some [x, y, z])) :
    PS X (.Assign [.Tuple [.Name x px, .Name y py, .Name z pz] kt pt] (.Tuple [a, b, c] k2 pt2) pos) (tS X W (asgS (tupW ([a, b, c].map f)) (nmW (.tp [.nm i, .nm j, .nm l])))) := by
  refine ps_imp (ps_par3 hc hN hi hj hl hij hil hjl hx hy hz (pa_args hs h) hw) fun D σ H ⟨Γ, S, D', E', g, rs, hm, h1, h2, hx⟩ => ?_
  refine ⟨Γ, S, fun ds S1 => nmW (.tp [.nm i, .nm j, .nm l]) (.tup ds) Γ S1 D'.nx E', _, g, rs, hm, fun ds S1 vs H1 hn a k rvs r1 => ?_, hx.at g⟩
  match ds, hn with
  | [d, e, u], _ =>
    cases rvs with
    | cons rv t =>
      obtain ⟨w, w2, rfl, rw1, rw2⟩ := rvs2 t
      exact ⟨_, w, w2, rfl, h1 _ _ _ _ a k ((((g.keep k).set rv).set rw1).set rw2) r1⟩
/-- o[i] = v -/
def setW (o i d : D) (S : Sto) (Q : Sto → Prop) : Prop := match o, i with
  | .ref a, .int k => onL S a fun xs => (match ixN xs.length k with | some j => Q (put S a (.lst (xs.set j d))) | none => False)
  | _, _ => False
def subG (mo mi : WE) : WG := fun d Γ S Q E => mo Γ S (fun o S1 => mi Γ S1 (fun i S2 => setW o i d S2 (fun S3 => Q Γ S3)) (fun x S' => E x Γ S')) (fun x S' => E x Γ S')
theorem pg_subD {o i : Expr} {pos : Pos} {mo mi : WE} (ho : PE X o (tI X W mo)) (hi : PE X i (tI X W mi)) (hn : notSlice i = true) : PG X (.Subscript o i pos) (tGt X W (subG mo mi)) := by
  refine pg_imp (pg_sub ho hi set_list (by intro v; cases i <;> first | rfl | cases hn)) fun v σ H Q ⟨d, Γ, S, Q', E', rv, g, rs, hm, hq, hx⟩ => ?_
  refine ⟨Γ, S, _, _, g, rs, hm, fun x S1 vo H1 h1 k1 ro r1 => ?_, hx.at g⟩
  refine ⟨Γ, S1, _, _, g.keep k1, r1, h1, fun y S2 vi H2 h2 k2 ri r2 => ?_, (hx.keep k1).at (g.keep k1)⟩
  unfold setW at h2
  split at h2
  · cases rv_ref ro
    cases rv_int ri
    obtain ⟨xs, hxs, h2⟩ := onL_get h2
    split at h2
    · rename_i j e
      obtain ⟨ws, hw, rw'⟩ := r2.lst hxs
      have k3 := tk_lst (o := .lst (ws.set j v)) hw
      refine ⟨_, ws, _, j, rfl, rfl, hw, by rw [rw'.len]; exact e, hq _ _ _ _ h2 ((k1.trans k2).trans k3) (g.keep ((k1.trans k2).trans k3)) (r2.put k3 ⟨_, upd_same, RVs.keep k3 (rw'.set (rv.keep (k1.trans k2)) j)⟩)⟩
    · cases h2
  · cases h2
/-! ### loops -/
def forW (body : D → Gam → Sto → (Gam → Sto → Prop) → Prop) (ok : Sto → Prop) (nx : Gam → Sto → Prop) : List D → Gam → Sto → Prop
  | [], Γ, S => ok S ∧ nx Γ S
  | d :: ds, Γ, S => ok S ∧ body d Γ S (fun Γ' S' => forW body ok nx ds Γ' S')
def bodyW (t : Tg) (mb : WS) (rt : KE) (E : XG) : D → Gam → Sto → (Gam → Sto → Prop) → Prop := fun d Γ S k => match tgU S t d with | some ups => mb (setU Γ ups) S ⟨k, rt⟩ E | none => False
def forS (mi : WI) (t : Tg) (mb : WS) : WS := fun Γ S D E => mi Γ S (fun ds ok S1 => forW (bodyW t mb D.rt E) ok D.nx ds Γ S1) (fun x S' => E x Γ S')
theorem ps_forD {tg iter : Expr} {body : List Stmt} {pos : Pos} {mi : WI} {t : Tg} {mb : WS} (hp : PassesOwn (model X.prog X.w) X.A X.env X.xe) (hc : X.calm = true) (hi : PI X tg iter (tIt X W mi)) (hg : PG X tg (gTg X t)) (hb : PSs X body (tS X W mb)) (hs : ∀ x, foldedSetIterable iter X.env x = pure x) :
    PS X (.For tg iter body [] pos) (tS X W (forS mi t mb)) := by
  refine ps_imp (ps_for hp hc hi hg hb hs) fun D σ H ⟨Γ, S, D', E', g, rs, hm, h1, h2, hx⟩ => ?_
  refine ⟨Γ, S, _, _, g, rs, hm, fun ds ok S1 J H1 a k1 r1 pl => ?_, hx.at g⟩
  refine ⟨fun i m σ' H' => ∃ Γ' S', m = ds.length - i ∧ i ≤ ds.length ∧ RG X.K W.pn H' σ' Γ' ∧ RS X.K H' S' ∧ TK H1 H' ∧ forW (bodyW t mb D'.rt E') ok D'.nx (ds.drop i) Γ' S', ⟨ds.length, Γ, S1, by simp, Nat.zero_le _, g.keep k1, r1, TK.refl, by simpa using a⟩, ?_⟩
  rintro i m σ2 H2 ⟨Γ2, S2, rfl, hi, g2, r2, k2, hc⟩
  by_cases hlt : i < ds.length
  · rw [List.drop_eq_getElem_cons hlt] at hc
    unfold forW at hc
    obtain ⟨hok, hc⟩ := hc
    unfold bodyW at hc
    split at hc
    · rename_i ups e
      obtain ⟨go, yl⟩ := pl.go i H2 S2 _ k2 r2 hok (List.getElem?_eq_getElem hlt)
      refine .inr ⟨go, fun σ' H' => ∃ Γ' S', RG X.K W.pn H' σ' Γ' ∧ RS X.K H' S' ∧ TK H1 H' ∧ forW (bodyW t mb D'.rt E') ok D'.nx (ds.drop (i + 1)) Γ' S', fun σ' H' ⟨Γ', S', a, b, c, d⟩ => ⟨ds.length - (i + 1), by omega, Γ', S', rfl, hlt, a, b, c, d⟩, fun x H3 y => ?_⟩
      obtain ⟨k3, rx, rk⟩ := yl x H3 y
      refine ⟨_, S2, ups, rx, rk S2 r2, e, fun ws uw => ?_⟩
      have gg := rg_setU uw (g2.keep k3)
      exact ⟨_, S2, _, E', gg, rk S2 r2, hc, fun Γ4 S4 σ4 H4 h4 k4 g4 r4 => ⟨Γ4, S4, g4, r4, (k2.trans k3).trans k4, h4⟩, fun d S4 v H4 h4 k4 rv r4 => h2 _ _ _ _ h4 (((k1.trans k2).trans k3).trans k4) rv r4, hx.keep ((k1.trans k2).trans k3)⟩
    · cases hc
  · have e : i = ds.length := by omega
    subst e
    rw [List.drop_length] at hc
    unfold forW at hc
    exact .inl ⟨pl.stop _ H2 S2 k2 r2 hc.1 (Nat.le_refl _), h1 _ _ _ _ hc.2 (k1.trans k2) g2 r2⟩
def whileS (mc : WT) (mb : WS) : WS := fun Γ S D E => ∃ I : Nat → Gam → Sto → Prop, (∃ m, I m Γ S) ∧ ∀ m Γ S, I m Γ S → mc Γ S (fun b S1 => if b = true then mb Γ S1 ⟨fun Γ' S' => ∃ m', m' < m ∧ I m' Γ' S', D.rt⟩ E else D.nx Γ S1) (fun x S' => E x Γ S')
theorem ps_whileD {c : Expr} {body : List Stmt} {pos : Pos} {mc : WT} {mb : WS} (hp : PassesOwn (model X.prog X.w) X.A X.env X.xe) (hc : PT X c (tT X W mc)) (hb : PSs X body (tS X W mb)) : PS X (.While c body [] pos) (tS X W (whileS mc mb)) := by
  refine ps_imp (ps_while hp hc hb) fun D σ H ⟨Γ, S, D', E', g, rs, ⟨I, ⟨m0, i0⟩, hI⟩, h1, h2, hx⟩ => ?_
  refine ⟨fun m σ' H' => ∃ Γ' S', I m Γ' S' ∧ RG X.K W.pn H' σ' Γ' ∧ RS X.K H' S' ∧ TK H H', ⟨m0, Γ, S, i0, g, rs, TK.refl⟩, ?_⟩
  rintro m σ2 H2 ⟨Γ2, S2, i2, g2, r2, k2⟩
  refine ⟨Γ2, S2, _, _, g2, r2, hI m Γ2 S2 i2, fun b S3 H3 h3 k3 r3 => ?_, (hx.keep k2).at g2⟩
  cases b with
  | true =>
    rw [if_pos rfl] at h3 ⊢
    refine ⟨fun σ' H' => ∃ m', m' < m ∧ ∃ Γ' S', I m' Γ' S' ∧ RG X.K W.pn H' σ' Γ' ∧ RS X.K H' S' ∧ TK H H', fun σ' H' z => z, Γ2, S3, _, E', g2.keep k3, r3, h3, fun Γ4 S4 σ4 H4 h4 k4 g4 r4 => ?_, fun d S4 v H4 h4 k4 rv r4 => h2 _ _ _ _ h4 ((k2.trans k3).trans k4) rv r4, hx.keep (k2.trans k3)⟩
    obtain ⟨m', hl, i4⟩ := h4
    exact ⟨m', hl, Γ4, S4, i4, g4, r4, (k2.trans k3).trans k4⟩
  | false =>
    rw [if_neg Bool.false_ne_true] at h3 ⊢
    exact h1 _ _ _ _ h3 (k2.trans k3) (g2.keep k3) r3
end Vm
/-! VmG: raise, try, what is done with a caught exception, over plain data. -/
namespace Vm
open PySem PySem.Spec PyProof.Rows L2
variable {X : Cx} {W : WP}

/-- an exception class of the program without an __init__ of its own -/
def excFacts (K : PySem.W.Frag) (C : Addr) : Prop :=
  PySem.W.keepIn K (.ref C) = true ∧ PySem.W.excIn K C He.veBase "ValueError.__new__" = true ∧ PySem.W.subIn K (.ref C) (.type "BaseException") = some true ∧ PySem.W.typeIn K (.ref C) = some (.type "type")
structure ExcOk (X : Cx) (x : Str) : Prop where
  ex : ∃ C, X.mg x = some (.ref C) ∧ PySem.W.nsIn X.K mainGlobals x = some (some (.ref C)) ∧ excFacts X.K C
def raiseS (c : Str) : WS := fun Γ S D E => E ⟨c, []⟩ Γ S
theorem ps_raiseD {x m : Str} {j : Nat} {p p2 pos pos2 : Pos} (hc : X.calm = true) (tk : L2N.Takes X W.w) (ok : ExcOk X x) (hg : Gl X x) (hdb : (x == ("__debug__" : Str)) = false) :
    PS X (.Raise (some (.Call (.Name x p) [.Constant (.str m) j p2] [] pos)) none pos2) (tS X W (raiseS x)) := by
  obtain ⟨C, gC, nC, kC, eC, sC, tC⟩ := ok.ex
  refine ps_imp (L2N.ps_raise hc tk (L2N.pmk_own PySem.F.excBase_ValueError eC gC kC (raises_own sC tC) hg hdb)) fun D σ H h => ?_
  obtain ⟨Γ, S, D', E', g, rs, hm, h1, h2, hx⟩ := h
  exact hx ⟨x, []⟩ Γ S (.ref C) none σ H hm TK.refl ⟨⟨C, rfl, nC⟩, .inl ⟨rfl, rfl⟩⟩ g rs

/-! ### try -/
/-- which classes a clause takes: by names, as far as it is told -/
abbrev Subs := List ((Str × Str) × Bool)
def SubsOk (K : PySem.W.Frag) (sb : Subs) : Prop := ∀ x y b, sb.lookup (x, y) = some b → ∀ C C', PySem.W.nsIn K mainGlobals x = some (some (.ref C)) → PySem.W.nsIn K mainGlobals y = some (some (.ref C')) → PySem.W.exmOne K (.ref C) (.ref C') = some b
def trySub (sb : Subs) (c : Str) (x : Ex) (yes no : Prop) : Prop := match sb.lookup (x.cls, c) with
  | some true => yes
  | some false => no
  | none => False
def tryAs (sb : Subs) (c : Str) (i : Nat) (mb ms : WS) : WS := fun Γ S D E => mb Γ S D (fun x Γ' S' => trySub sb c x
  (ms ((clean Γ').set i (some (.exn x.cls x.fs))) S' ⟨fun Γ2 S2 => D.nx (clean (Γ2.set i none)) S2, D.rt⟩ (fun _ _ _ => False)) (E x Γ' S'))
/-- the suite, whatever object the exception is -/
def tSu (X : Cx) (m : WS) (a : Addr) (cls : Value) (d : Option Addr) : TS := fun D σ H => ∀ oe, L2N.Zn cls d oe → (∃ vs, oe.data = .fields vs) → tS X ⟨W0.w, [(a, oe)]⟩ m D σ H
theorem ps_tryAsD {x n : Str} {c : Addr} {i : Nat} {body suite : List Stmt} {b₀ : Stmt} {np pos pos' : Pos} {sb : Subs} {mb ms : WS} (hs : X.stack = X.env :: X.outer) (hf : X.env.frame = some X.env.locals) (hN : X.N.Nodup) (hi : X.N[i]? = some n) (hln : X.env.kindOf n = some .local)
    (hc : Names X x (.ref c)) (nc : PySem.W.nsIn X.K mainGlobals x = some (some (.ref c))) (sok : SubsOk X.K sb) (tk : L2N.Takes X W.w)
    (hb : ∀ (W' : WX) (pn : List (Addr × Obj)) (xe : Value → Shared → Prop), L2N.Takes (X.tr pn xe) W' → PassesOwn (model X.prog X.w) X.A X.env xe → PSs (X.tr pn xe) body (tS X ⟨W', W.pn⟩ mb))
    (hsu : ∀ (a : Addr) (oe : Obj) (cls : Value) (d : Option Addr) (pn : List (Addr × Obj)), L2N.Zn cls d oe → (∃ vs, oe.data = .fields vs) → PSs (X.suite a ((a, oe) :: pn)) (b₀ :: suite) (tS X ⟨W0.w, [(a, oe)]⟩ ms)) :
    PS X (.Try body [.ExceptHandler (some (.Name x np)) (some n) (b₀ :: suite) pos'] [] [] pos) (tS X W (tryAs sb x i mb ms)) := by
  have base := L2N.ps_try_as (X := X) (Wout := W.w) (tb := fun W' => tS X ⟨W', W.pn⟩ mb) (ts := fun a cls d => tSu X ms a cls d) (pos := pos) (pos' := pos') (np := np) hs hf hN hi hln hc tk hb
    (fun a oe cls d pn hz hd => pss_imp (hsu a oe cls d pn hz hd) fun D σ H h => h oe hz hd)
  refine ps_imp base fun D σ H h => ?_
  obtain ⟨Γ, S, D', E', g, rs, hm, h1, h2, hx⟩ := h
  refine ⟨Γ, S, D', _, g, rs, hm, h1, h2, fun y Γ1 S1 cls dd σ1 H1 he k1 hrx g1 r1 => ?_⟩
  obtain ⟨⟨C, rfl, ncl⟩, hfs⟩ := id hrx
  have he : trySub sb x y (ms ((clean Γ1).set i (some (.exn y.cls y.fs))) S1 ⟨fun Γ2 S2 => D'.nx (clean (Γ2.set i none)) S2, D'.rt⟩ (fun _ _ _ => False)) (E' y Γ1 S1) := he
  unfold trySub at he
  split at he
  · rename_i e
    refine ⟨true, sok _ _ _ e _ _ ncl nc, fun _ a ha => fun oe hz hd => ?_, fun q => nomatch q⟩
    have gx : RG X.K [(a, oe)] H1 (σ1.set i (some (.ref a))) ((clean Γ1).set i (some (.exn y.cls y.fs))) := (g1.clean (pn' := [(a, oe)])).setL (.exn (by simp) (L2N.Zn.zc hz) hd hrx)
    refine ⟨_, S1, _, _, gx, r1, he, fun Γ3 S3 σ3 H3 h3 k3 g3 r3 => ?_, fun d S3 v H3 h3 k3 rv r3 => h2 _ _ _ _ h3 (k1.trans k3) rv r3, fun _ _ _ _ _ _ _ z => z.elim⟩
    exact h1 _ _ _ _ h3 (k1.trans k3) (g3.unset.clean) r3
  · rename_i e
    exact ⟨false, sok _ _ _ e _ _ ncl nc, fun q => (nomatch q), fun _ => hx y Γ1 S1 (.ref C) dd σ1 H1 he k1 hrx g1 r1⟩
  · cases he

/-! ### a caught exception: its class asked -/
def exnAt (Γ : Gam) (i : Nat) (k : Str → List (Str × D) → Prop) : Prop := match Γ[i]? with | some (some (.exn c fs)) => k c fs | _ => False
theorem exnAt_get {Γ : Gam} {i : Nat} {k : Str → List (Str × D) → Prop} (h : exnAt Γ i k) : ∃ c fs, Γ[i]? = some (some (.exn c fs)) ∧ k c fs := by
  unfold exnAt at h
  split at h
  · rename_i c fs e; exact ⟨c, fs, e, h⟩
  · cases h
/-- what isinstance wants of an exception's class -/
def isiFacts (K : PySem.W.Frag) (C : Addr) : Prop := (PySem.W.clsIn K C).isSome = true ∧ PySem.W.findIn K (.ref C) "__getattribute__" = some (some (.builtin "BaseException.__getattribute__")) ∧ (∃ gt, PySem.W.findIn K (.ref C) "__getattr__" = some gt) ∧
  PySem.W.subIn K (.ref C) (.type "BaseException") = some true ∧ PySem.W.findIn K (.ref C) "__class__" = some (some (.builtin "object.__class__")) ∧ PySem.W.specialIn K (.builtin "object.__class__") "__get__" = some (some (.builtin "getset_descriptor.__get__")) ∧
  PySem.W.takesIn K (.builtin "object.__class__") = some true ∧ PySem.W.mroIn K C (.type "object") = some true
theorem InstAt_exn {h : Heap} {a C : Addr} {oe : Obj} {dd : Option Addr} (he : h.get? a = some oe) (hz : Zc (.ref C) dd oe) (hd : ∃ vs, oe.data = .fields vs) (hdd : ∀ d, dd = some d → ∃ od, h.get? d = some od) : ∃ od, PySem.W.InstAt h a oe C od := by
  obtain ⟨vs, hd⟩ := hd
  have nc : PySem.W.notCls oe = true := by unfold PySem.W.notCls; rw [hd] <;> rfl
  obtain ⟨hz1, hz2⟩ := hz
  cases dd with
  | none => exact ⟨none, ⟨he, hz1, nc, by rw [hz2]; trivial⟩⟩
  | some d =>
    obtain ⟨od, ho⟩ := hdd d rfl
    exact ⟨some od, ⟨he, hz1, nc, by rw [hz2]; exact ho⟩⟩
/-- isinstance of the handled exception, by values -/
def rIsiX (X : Cx) : List V → Hp → VK → Prop := fun xs H Q => ∃ a oe C dd v u b, xs = [.ref a, v] ∧ (a, oe) ∈ X.pn ∧ Zc (.ref C) dd oe ∧ (∃ vs, oe.data = .fields vs) ∧ (∀ d, dd = some d → ∃ ws, H d = some (.xd ws)) ∧ isiFacts X.K C ∧ ClsV v u ∧ PySem.W.kitOne X.K (.ref C) u = some b ∧ Q (.bl b) H
theorem call_isiX : CallR X (.builtin "isinstance") (rIsiX X) := by
  intro pins s σ H xs us Q I r h
  obtain ⟨a, oe, C, dd, v, u, b, rfl, hp, hz, hd, hdd, ⟨f1, f2, ⟨gt, f3⟩, f4, f5, f6, f7, f8⟩, cv, kb, q⟩ := h
  obtain ⟨u1, u2, rfl, r1, r2⟩ := vals2 r
  have e2 := cv.eq r2
  subst e2
  cases (show u1 = Value.ref a from r1)
  have ho := (I.pin (a, oe) (List.mem_append_left _ hp)).1
  obtain ⟨od, J⟩ := InstAt_exn ho hz hd (fun d e => by
    obtain ⟨ws, hw⟩ := hdd d e
    obtain ⟨mA, ⟨o, _, _, ho, _⟩, _⟩ := I.hok d _ hw
    exact ⟨o, ho⟩)
  exact PySem.W.kia_one (PySem.W.kitx_exc f1 f2 f3 f4 f5 f6 f7 f8) I.kIn J kb (fun z => nomatch z) fun tk => ⟨.bl b, H, I.tok tk, rfl, q⟩
def isiE (tb : Subs) (i : Nat) (y : Str) : WE := fun Γ S Q _ => exnAt Γ i fun c _ => (match tb.lookup (c, y) with | some b => Q (.bl b) S | none => False)
theorem rx_dict {K : PySem.W.Frag} {H : Hp} {cls : Value} {dd : Option Addr} {c : Str} {fs : List (Str × D)} (h : RXc K H cls dd c fs) : ∀ d, dd = some d → ∃ ws, H d = some (.xd ws) := fun d e => by
  rcases h.2 with ⟨_, z⟩ | ⟨d', ws, e', hw, _⟩
  · rw [z] at e; cases e
  · rw [e'] at e; cases e; exact ⟨ws, hw⟩
/-- the class y, asked of exceptions of the told classes -/
structure IsiOk (X : Cx) (tb : Subs) (y : Str) : Prop where
  ex : ∃ v u, ClsV v u ∧ RelV v u ∧ (X.mg y = some u ∨ (X.mg y = none ∧ bootBuiltins y = some u ∧ y ≠ "__name__")) ∧ ∀ x b C, tb.lookup (x, y) = some b → PySem.W.nsIn X.K mainGlobals x = some (some (.ref C)) → isiFacts X.K C ∧ PySem.W.kitOne X.K (.ref C) u = some b
theorem pe_isiE {n y : Str} {i : Nat} {p pn pc pos : Pos} {tb : Subs} (hN : X.N[i]? = some n) (hv : Vis X.env.scope n) (hd : (n == ("__debug__" : Str)) = false) (hcd : (n == ("__classdict__" : Str)) = false) (hg : Gl X "isinstance") (hm : X.mg "isinstance" = none)
    (tok : IsiOk X tb y) (hgy : Gl X y) (hdy : (y == ("__debug__" : Str)) = false) (hpn : ∀ q ∈ W.pn, q ∈ X.pn) : PE X (.Call (.Name "isinstance" p) [.Name n pn, .Name y pc] [] pos) (tI X W (isiE tb i y)) := by
  obtain ⟨w, u, cw, rw', at_, hu⟩ := tok.ex
  have pw : PE X (.Name y pc) (tC w) := by
    rcases at_ with h | ⟨h, h2, h3⟩
    · exact pe_glob hgy h rw' hdy
    · exact pe_bltn hgy h h2 rw' h3 hdy
  have P := pe_callB (X := X) (p := p) (pos := pos) call_isiX hg hm (by decide +kernel) (pa_cons (pe_var (pos := pn) hN hv hd hcd) (pa_cons pw pa_nil))
  refine ⟨fun pins s σ H Q I h => ?_⟩
  obtain ⟨Γ, S, Q', E', g, rs, hm1, hq, hx⟩ := h
  obtain ⟨c, fs, e, hm2⟩ := exnAt_get hm1
  split at hm2
  · rename_i b eb
    obtain ⟨v, h1, h2⟩ := g.get i _ e
    cases h2 with
    | val r => cases r
    | @exn a oe cls dd _ _ hp hz hdd hr =>
      obtain ⟨⟨C, rfl, nC⟩, _⟩ := id hr
      obtain ⟨fC, kb⟩ := hu c b C eb nC
      refine P.run pins s σ H Q I ?_
      refine ⟨.ref a, h1, a, oe, C, dd, w, u, b, rfl, hpn _ hp, hz, hdd, rx_dict hr, fC, cw, kb, ?_⟩
      exact hq _ _ _ _ hm2 TK.refl .bl rs
  · cases hm2

/-! ### a def that is called while an exception is handled: it may be handed the exception -/
abbrev RLs (K : PySem.W.Frag) (pn : Pn) (H : Hp) : List V → List D → Prop := Paired (RL K pn H)
structure FnX (P : Program) (w : World) (K : PySem.W.Frag) (mg : Str → Option Value) (base : Heap) (k : Nat) (f : Addr) (fd : FuncData) (ps : List Str) (sp : (Addr × Obj) → Sp) : Prop where
  len : ∀ p vs H Q E, sp p vs H Q E → vs.length = ps.length
  run : ∀ (p : Addr × Obj) (A : Around) (outer : List Env) (s : Shared) (H : Hp) (args : Args) (us : List Value) (vs : List V) (Q : VK) (E : XK), L2H.RoomH k A → L2H.Hot1 A p → L2H.PinOk outer H s p →
    Env0 P w K mg base A outer s H → BindsTo s fd args (ps.zip us) → Vals vs us → sp p vs H Q E → codeAny (model P w) A (.call (.ref f) args) (CR (L2N.CX P w) outer P w H s Q E) s
theorem fnX_of {P : Program} {w : World} {K : PySem.W.Frag} {mg : Str → Option Value} {base : Heap} {k : Nat} {f : Addr} {name qual : Str} {params : Arguments} {body : List Stmt} {scope : Scope} {dV kV doc pm cdv ct oc : Value} {an od : Option Addr} {osl : Array (Option Value)} {N ps : List Str} {sp : (Addr × Obj) → Sp}
    (lk : K.lookup f = some ⟨oc, od, .func (PySem.W.fnOf name qual params body scope dV kV doc pm an cdv ct), osl⟩) (hcd : PySem.W.codeIn K cdv qual = true) (S : FnScope N ps scope) (len : ∀ p vs H Q E, sp p vs H Q E → vs.length = ps.length)
    (hbody : ∀ (p : Addr × Obj) (A : Around) (outer : List Env) (s : Shared) (H : Hp) (vs : List V) (Q : VK) (E : XK), L2H.Hot1 A p → L2H.RoomH k (A.deeper (envOfC qual scope s.heap.objs.size f cdv)) → sp p vs H Q E →
      ∃ t, PSs (L2H.cxH (L2N.CX P w) P w K mg base N qual scope f cdv A outer s H E p) body t ∧ t { nx := fun _ H' => Q .non H', rt := Q } (L2.start N vs) H) :
    FnX P w K mg base (k + 1) f (PySem.W.fnOf name qual params body scope dV kV doc pm an cdv ct) ps sp := by
  refine ⟨len, ?_⟩
  intro p A outer s H args us vs Q E room hot pin env bnd rel want
  have kept : ∀ b o, base.get? b = some o → s.heap.get? b = some o := fun b o e => (env.bs b o e).1
  have inK : K.In s.heap := env.mod.kin.keeps kept
  have kinds : ∀ y ∈ ps.zip us, scope.names.lookup y.1 = some .local ∨ (scope.names.lookup y.1 = some .cell ∧ ((cellsFrom (s.heap.objs.size + 1) scope.names []).lookup y.1).isSome = true) := by
    rintro ⟨n, v⟩ hy
    cases S.par n (List.of_mem_zip hy).1 with
    | inl q => exact Or.inl q
    | inr q => exact Or.inr ⟨q, PySem.W.cellsFrom_some _ _ _ (Or.inl q)⟩
  refine codeAny_call_function room.depth (inK _ _ lk) rfl S.co S.gen rfl (PySem.W.codeRec_of inK hcd) (bnd _ _ _ _ ?_)
  refine wpAny_newFunctionEnv_cells S.kind kinds ?_
  intro env1 eenv s1 made
  subst eenv
  refine ⟨(env.mod.nolimit.keeps kept).keeps made.toInCall.keep, codeAny_func ?_⟩
  obtain ⟨t, ht, hq⟩ := hbody p A outer s H vs Q E hot (room.deeper _) want
  have start := L2H.inv_startH (CX := L2N.CX P w) (E := E) S pin env (len _ _ _ _ _ want) rel made
  refine wpAny_mono (ht.run [] s1 (L2.start N vs) H _ start hq) (fun fl s2 got => ?_) (fun _ _ z => z)
  cases fl with
  | next =>
    obtain ⟨_, H2, J, q⟩ := got
    exact ⟨.non, H2, J.os, J.bare, J.base, J.hok, rfl, q⟩
  | ret u =>
    obtain ⟨v, _, H2, J, rv, q⟩ := got
    exact ⟨v, H2, J.os, J.bare, J.base, J.hok, rv, q⟩
  | brk => obtain ⟨_, _, _, q⟩ := got; cases q
  | cont => obtain ⟨_, _, _, q⟩ := got; cases q
def spX (K : PySem.W.Frag) (F : FS) (p : Addr × Obj) : Sp := fun vs H Q E => ∃ ds S Q' E', RLs K [p] H vs ds ∧ RS K H S ∧ F ds S Q' E' ∧ (∀ d S' v H', Q' d S' → TK H H' → RV K H' v d → RS K H' S' → Q v H') ∧
  (∀ x S' cls dd H', E' x S' → TK H H' → RX K H' cls dd x → RS K H' S' → E cls dd H')
structure DefX (X : Cx) (x : Str) (F : FS) : Prop where
  ex : ∃ f fd k ps, X.mg x = some (.ref f) ∧ PySem.W.keepIn X.K (.ref f) = true ∧ FnX X.prog X.w X.K X.mg X.base k f fd ps (spX X.K F) ∧ Binds X.K fd ps [] ∧ L2H.RoomH k X.A
def callX (F : FS) (i : Nat) : WE := fun Γ S Q E => exnAt Γ i fun c fs => F [.exn c fs] S Q E
/-- the handled exception, as the context bears it -/
def HotAtW (X : Cx) (pn : Pn) : Prop := ∃ p, pn = [p] ∧ L2H.Hot1 X.A p ∧ p ∈ X.pn
theorem pe_callX {x n : Str} {i : Nat} {p pn pos : Pos} {F : FS} (tk : L2N.Takes X W.w) (df : DefX X x F) (hot : HotAtW X W.pn) (hN : X.N[i]? = some n) (hv : Vis X.env.scope n) (hd : (n == ("__debug__" : Str)) = false) (hcd : (n == ("__classdict__" : Str)) = false)
    (hg : Gl X x) (hdb : (x == ("__debug__" : Str)) = false) : PE X (.Call (.Name x p) [.Name n pn] [] pos) (tI X W (callX F i)) := by
  obtain ⟨fa, fd, k, ps, hm, hk, ok, hb, hr⟩ := df.ex
  obtain ⟨q, eq, h1, h2⟩ := hot
  have pa : PA X [.Name n pn] (tCons (tVar i) tNil) := pa_cons (pe_var hN hv hd hcd) pa_nil
  refine ⟨fun pins s σ H Q I h => ?_⟩
  obtain ⟨Γ, S, Q', E', g, rs, hm1, hq, hx⟩ := h
  obtain ⟨c, fs, e, hm2⟩ := exnAt_get hm1
  obtain ⟨v, hv1, hv2⟩ := g.get i _ e
  refine wpAny_Call_Name_kw (ld_glob I hg hm ?_ hdb)
  refine PySem.W.callWith_K (h₀ := X.base) I.ok.mod.kin hk (thn (pa.run pos pins s σ H (fun vs H1 => vs = [v] ∧ H1 = H) I ⟨v, hv1, rfl, rfl⟩) fun us s1 ⟨vs, H1, I1, r, ev, eH⟩ => ⟨I1.kIn, ?_⟩)
  subst ev eH
  have want : spX X.K F q [v] H1 Q (fun cls d H' => W.w cls d σ H') := ⟨[.exn c fs], S, Q', E', by rw [← eq]; exact .cons hv2 .nil, rs, hm2, hq, hx⟩
  have len : us.length = ps.length := r.length.symm.trans (ok.len _ _ _ _ _ want)
  have bnd := hb s1 us I1.kIn (by rw [List.append_nil]; exact len)
  rw [List.append_nil] at bnd
  obtain ⟨p1, p2, p3, p4, p5⟩ := I1.pin q (List.mem_append_left _ h2)
  have pin : L2H.PinOk X.stack H1 s1 q := ⟨p1, p2, fun hm => (List.mem_cons.mp (I1.stkSub q.1 hm)).elim p3 p4, p5⟩
  refine wpAny_call (codeAny_mono (ok.run q X.A X.stack s1 H1 ⟨us, []⟩ us [v] Q _ hr h1 pin I1.env0 bnd r want) fun r s2 got => ?_)
  cases r with
  | error e => exact L2N.passAt tk σ pins H1 s1 e s2 I1 got
  | ok fl =>
    cases fl with
    | ret u => exact I1.after got
    | next => cases got
    | brk => cases got
    | cont => cases got
end Vm
/-! VmH: the whole text of a def, read as a wish over plain data. -/
namespace Vm
open PySem PySem.Spec PyProof.Rows L2

inductive Bk where
  | abs | len | isi | all | any | sum | max | min
def Bk.name : Bk → Str
  | .abs => "abs" | .len => "len" | .isi => "isinstance" | .all => "all" | .any => "any" | .sum => "sum" | .max => "max" | .min => "min"
def Bk.k : Bk → List D → Sto → KE → Prop
  | .abs => absW | .len => lenW | .isi => isiW | .all => allW | .any => anyW | .sum => sumW | .max => maxW | .min => minW
def btK : Bt → Option (List D → Sto → KE → Prop)
  | .int => some intCW | .tuple => some tupleW | .list => some listW | _ => none
/-- what a name of the module stands for -/
inductive GV where
  | fn (F : FS) | fnx (F : FS) | con (d : D) | exc | bex | bi (b : Bk) | bt (t : Bt) | rng
structure Stat where
  N : List Str
  sc : Scope
  sn : List (Str × NameKind)
  G : List (Str × GV)
  calm : Bool
  top : Bool
  sub : Subs
  isi : Subs
def ixOf (x : Str) : List Str → Option Nat
  | [] => none
  | y :: r => if y = x then some 0 else (ixOf x r).map (· + 1)
theorem ixOf_get {x : Str} : ∀ {N : List Str} {i : Nat}, ixOf x N = some i → N[i]? = some x
  | [], _, h => by cases h
  | y :: r, i, h => by
    unfold ixOf at h
    split at h
    · rename_i e; cases h; rw [e] <;> rfl
    · cases e : ixOf x r with
      | none => rw [e] at h; cases h
      | some j =>
        rw [e] at h
        cases h
        rw [List.getElem?_cons_succ]
        exact ixOf_get e
def odd (x : Str) : Bool := x == ("__debug__" : Str) || x == ("__classdict__" : Str)
def Stat.slot (g : Stat) (x : Str) : Option Nat := if odd x then none else match g.sc.names.lookup x with
  | some .local => ixOf x g.N
  | some .cell => ixOf x g.N
  | some .free => ixOf x g.N
  | _ => none
def Stat.glo (g : Stat) (x : Str) : Option GV := if odd x then none else match g.sc.names.lookup x with
  | some .globalImplicit => g.G.lookup x
  | _ => none
def Stat.sto (g : Stat) (x : Str) : Option Nat := match g.sn.lookup x with
  | some .local => ixOf x g.N
  | some .cell => ixOf x g.N
  | _ => none
def Stat.loc (g : Stat) (x : Str) : Option Nat := match g.sn.lookup x with
  | some .local => ixOf x g.N
  | _ => none
def ownOf (N : List Str) (scope : Scope) : List (Str × Nat) := scope.names.filterMap fun y => match y.2 with
  | .local => (ixOf y.1 N).map fun i => (y.1, i)
  | .cell => (ixOf y.1 N).map fun i => (y.1, i)
  | _ => none
def Stat.blk (g : Stat) (scope : Scope) : Stat := { g with sc := relS scope g.sc, sn := scope.names, top := false }

def nameW (g : Stat) (x : Str) : WE := match g.slot x with
  | some i => slotW i
  | none => (match g.glo x with
    | some (.con d) => valW d
    | some (.bt t) => valW (.ty t)
    | some .exc => valW (.cls x)
    | _ => stuck)
def binW : Operator → WE → WE → WE
  | .Add, a, b => two a b addW
  | .Sub, a, b => two a b subW
  | .Mult, a, b => two a b mulW
  | .FloorDiv, a, b => two a b fdivW
  | .Mod, a, b => two a b modW
  | .Pow, a, b => two a b powW
  | _, _, _ => stuck
def cmpK : CmpOp → D → D → Sto → KE → Prop
  | .Eq => eqW false | .NotEq => eqW true | .Lt => ltW | .LtE => leW | .Gt => gtW | .GtE => geW | .Is => isW false | .IsNot => isW true | .In => inW false | .NotIn => inW true
def plainE : Expr → Bool
  | .ListComp _ _ _ _ => false
  | .SetComp _ _ _ _ => false
  | .DictComp _ _ _ _ _ => false
  | .Starred _ _ => false
  | .Slice _ _ _ _ => false
  | _ => true
def tgOf (g : Stat) : Nat → Expr → Option Tg
  | 0, _ => none
  | n + 1, e => match e with
    | .Name x _ => (g.sto x).map .nm
    | .Tuple es _ _ => if es.all notStar then (allM (tgOf g n) es).map .tp else none
    | _ => none
def isNm : Expr → Bool
  | .Name _ _ => true
  | _ => false
/-- a list's methods -/
def lmOf (name : Str) : Option (D → List D → Sto → KE → Prop) :=
  if name = "append" then some appendW else if name = "count" then some countW else if name = "index" then some indexW else if name = "extend" then some extendW else none
def callE (g : Stat) (f : Expr → WE) (x : Str) (args : List Expr) : WE := match g.glo x with
  | some (.fn F) => if g.calm && args.all notStar && !args.isEmpty then callW F (args.map f) else stuck
  | some (.fnx F) => (match args with
    | [.Name n _] => if g.calm then stuck else (match g.slot n with | some i => callX F i | none => stuck)
    | _ => stuck)
  | some (.bi b) => if g.calm then (if args.all notStar && !args.isEmpty then bltW b.k (args.map f) else stuck) else (match b, args with
    | .isi, [.Name n _, .Name y _] => (match g.slot n, g.glo y with
      | some i, some .exc => isiE g.isi i y
      | some i, some .bex => isiE g.isi i y
      | _, _ => stuck)
    | _, _ => stuck)
  | some (.bt t) => (match btK t with
    | some k => if g.calm && args.all notStar && !args.isEmpty then bltW k (args.map f) else stuck
    | none => stuck)
  | _ => stuck
def condW (ft : Expr → WT) : List Expr → WT
  | [] => yesT
  | [c] => ft c
  | _ => stuckT
def stepE (g : Stat) (f : Stat → Expr → WE) (ft : Stat → Expr → WT) (fi : Stat → Expr → WI) (e : Expr) : WE := match e with
  | .Constant c _ _ => constW c
  | .Name x _ => nameW g x
  | .BinOp a op b _ => binW op (f g a) (f g b)
  | .UnaryOp .USub a _ => oneW (f g a) negW
  | .UnaryOp .Not a _ => oneW (f g a) notW
  | .BoolOp .And es _ => andV (es.map (f g))
  | .BoolOp .Or es _ => orV (es.map (f g))
  | .IfExp c a b _ => ifW (ft g c) (f g a) (f g b)
  | .Compare a [op] [b] _ => if notSet b then two (f g a) (f g b) (cmpK op) else stuck
  | .Compare a [o1, o2] [b, c] _ => if notSet c then chainW (f g a) (f g b) (f g c) (cmpK o1) (cmpK o2) else stuck
  | .Tuple es _ _ => if es.all notStar && decide (es.length ≤ 1000) then tupW (es.map (f g)) else stuck
  | .List es _ => if es.all notStar && decide (es.length ≤ 1000) then lstW (es.map (f g)) else stuck
  | .Subscript a (.Slice lo hi none _) _ => slW (f g a) (partW (lo.map (f g))) (partW (hi.map (f g)))
  | .Subscript a b _ => if notSlice b then two (f g a) (f g b) ixW else stuck
  | .ListComp elt [⟨tg, iter, ifs, 0⟩] scope _ => if g.calm && notSet iter && blkC g.N g.sc scope (ownOf g.N scope) then
      (match tgOf (g.blk scope) 8 tg with
        | some t => if t.slots.all fun i => decide (i ∈ (ownOf g.N scope).map (·.2)) then lcW (fi g iter) t ((ownOf g.N scope).map (·.2)) (condW (ft (g.blk scope)) ifs) (f (g.blk scope) elt) else stuck
        | none => stuck)
      else stuck
  | .Call (.Name x _) args [] _ => callE g (f g) x args
  | .Call (.Attribute o name apos) args [] cpos => (match lmOf name with
    | some k => if args.all notStar && !args.isEmpty && decide (args.length < 29) && apos.endLine == cpos.line && isNm o then lmW k (f g o) (args.map (f g)) else stuck
    | none => stuck)
  | _ => stuck
def stepT (g : Stat) (f : Stat → Expr → WE) (ft : Stat → Expr → WT) (e : Expr) : WT := match e with
  | .UnaryOp .Not a _ => notT (ft g a)
  | .BoolOp .And es _ => andT (es.map (ft g))
  | .BoolOp .Or es _ => orT (es.map (ft g))
  | .Compare a [op] [b] _ => if notSet b then tst (two (f g a) (f g b) (cmpK op)) else stuckT
  | .Compare a [o1, o2] [b, c] _ => if notSet c then tst (chainW (f g a) (f g b) (f g c) (cmpK o1) (cmpK o2)) else stuckT
  | .Name x p => tst (f g (.Name x p))
  | .Call a b c d => tst (f g (.Call a b c d))
  | .Subscript a b c => tst (f g (.Subscript a b c))
  | .Attribute a b c => tst (f g (.Attribute a b c))
  | .Constant a b c => tst (f g (.Constant a b c))
  | _ => stuckT
def stepI (g : Stat) (f : Stat → Expr → WE) (e : Expr) : WI := match e with
  | .Call (.Name x p) [a] [] pos => (match g.glo x with
    | some .rng => if notStar a then rngW ([a].map (f g)) else stuckI
    | _ => itW (f g (.Call (.Name x p) [a] [] pos)))
  | .Call (.Name x p) [a, b] [] pos => (match g.glo x with
    | some .rng => if notStar a && notStar b then rngW ([a, b].map (f g)) else stuckI
    | _ => itW (f g (.Call (.Name x p) [a, b] [] pos)))
  | e => itW (f g e)
abbrev FE := Stat → Expr → WE
abbrev FT := Stat → Expr → WT
abbrev FI := Stat → Expr → WI
def wAll : Nat → FE × FT × FI
  | 0 => (fun _ _ => stuck, fun _ _ => stuckT, fun _ _ => stuckI)
  | n + 1 => (fun g e => stepE g (wAll n).1 (wAll n).2.1 (wAll n).2.2 e, fun g e => stepT g (wAll n).1 (wAll n).2.1 e, fun g e => stepI g (wAll n).1 e)
/-- both sides of a, b = x, y are written -/
def parOk (es vs : List Expr) : Bool := !(vs.all (foldedForSure 8)) && !(vs.all (constantsAlone 8))
def asgE (g : Stat) (f : FE) (tg : Expr) (e : Expr) : WS := match tg with
  | .Name x _ => (match g.sto x with
    | some i => if g.top then asgS (f g e) (nmW (.nm i)) else stuckS
    | none => stuckS)
  | .Subscript o i _ => if plainE e && notSlice i then asgS (f g e) (subG (f g o) (f g i)) else stuckS
  | .Tuple [.Name x px, .Name y py] _ _ => (match e with
    | .Tuple [a, b] _ _ => (match g.loc x, g.loc y with
      | some i, some j => if g.calm && decide (x ≠ y) && decide (px.line = py.line) && notStar a && notStar b && parOk [] [a, b] then asgS (tupW ([a, b].map (f g))) (nmW (.tp [.nm i, .nm j])) else stuckS
      | _, _ => stuckS)
    | .Name _ _ => asgT g f tg e
    | .Call _ _ _ _ => asgT g f tg e
    | .ListComp _ _ _ _ => asgT g f tg e
    | .Subscript _ _ _ => asgT g f tg e
    | _ => stuckS)
  | .Tuple [.Name x px, .Name y py, .Name z pz] _ _ => (match e with
    | .Tuple [a, b, c] _ _ => (match g.loc x, g.loc y, g.loc z with
      | some i, some j, some l => if g.calm && decide (x ≠ y) && decide (x ≠ z) && decide (y ≠ z) && decide (px.line = py.line) && decide (px.line = pz.line) && notStar a && notStar b && notStar c && parOk [] [a, b, c] then asgS (tupW ([a, b, c].map (f g))) (nmW (.tp [.nm i, .nm j, .nm l])) else stuckS
      | _, _, _ => stuckS)
    | .Name _ _ => asgT g f tg e
    | .Call _ _ _ _ => asgT g f tg e
    | .ListComp _ _ _ _ => asgT g f tg e
    | .Subscript _ _ _ => asgT g f tg e
    | _ => stuckS)
  | .Tuple es k p => (match e with
    | .Name _ _ => asgT g f tg e
    | .Call _ _ _ _ => asgT g f tg e
    | .ListComp _ _ _ _ => asgT g f tg e
    | .Subscript _ _ _ => asgT g f tg e
    | _ => stuckS)
  | _ => stuckS
where
  asgT (g : Stat) (f : FE) (tg e : Expr) : WS := if g.calm then (match tgOf g 8 tg with | some t => asgS (f g e) (nmW t) | none => stuckS) else stuckS
def stepS (g : Stat) (f : FE) (ft : FT) (fi : FI) (fs : Stat → List Stmt → WS) (st : Stmt) : WS := match st with
  | .Pass _ => passS
  | .Expr e _ => if plainE e then exprS (f g e) else stuckS
  | .Return none _ => retN
  | .Return (some e) _ => retS (f g e)
  | .If c a b _ => ifS (ft g c) (fs g a) (fs g b)
  | .While c body [] _ => whileS (ft g c) (fs g body)
  | .For tg iter body [] _ => if g.calm && notSet iter then (match tgOf g 8 tg with | some t => forS (fi g iter) t (fs g body) | none => stuckS) else stuckS
  | .Assign [tg] e _ => asgE g f tg e
  | .Raise (some (.Call (.Name x _) [.Constant (.str _) _ _] [] _)) none _ => if g.calm then (match g.glo x with | some .exc => raiseS x | _ => stuckS) else stuckS
  | .Try body [.ExceptHandler (some (.Name x _)) (some n) (b0 :: suite) _] [] [] _ => if g.calm && g.top then (match g.glo x, g.loc n with
    | some .exc, some i => tryAs g.sub x i (fs g body) (fs { g with calm := false } (b0 :: suite))
    | _, _ => stuckS) else stuckS
  | _ => stuckS
def wS (m : Nat) : Nat → Stat → List Stmt → WS
  | 0, _, _ => stuckS
  | n + 1, g, sts => seqW (sts.map fun st => stepS g (wAll m).1 (wAll m).2.1 (wAll m).2.2 (wS m n) st)
end Vm
/-! VmI: the reading of expressions is sound. -/
namespace Vm
open PySem PySem.Spec PyProof.Rows L2

def GvOk (X : Cx) (g : Stat) (x : Str) : GV → Prop
  | .fn F => g.calm = true → DefOk X x F
  | .fnx F => DefX X x F
  | .con d => ∃ v u, X.mg x = some u ∧ RelV v u ∧ ∀ H, RV X.K H v d
  | .exc => ExcOk X x ∧ IsiOk X g.isi x
  | .bex => IsiOk X g.isi x
  | .bi b => X.mg x = none ∧ x = b.name
  | .bt t => X.mg x = none ∧ x = Str.ofString t.name
  | .rng => X.mg x = none ∧ x = ("range" : Str)
structure Ctx (X : Cx) (W : WP) (g : Stat) : Prop where
  N : X.N = g.N
  nd : X.N.Nodup
  sc : X.env.scope = g.sc
  loc : ∀ x, g.sn.lookup x = some .local → X.env.scope.names.lookup x = some .local
  cel : ∀ x, g.sn.lookup x = some .cell → X.env.scope.names.lookup x = some .cell ∧ X.fn x = true
  calm : g.calm = true → X.calm = true
  hot : g.calm = false → HotAtW X W.pn
  pn : ∀ q ∈ W.pn, q ∈ X.pn
  tk : L2N.Takes X W.w
  glob : ∀ x v, g.G.lookup x = some v → GvOk X g x v
  units : X.A.units + 64 < cLine
  sub : SubsOk X.K g.sub
  own : PassesOwn (model X.prog X.w) X.A X.env X.xe
  kind : X.env.scope.kind = .function
  pn0 : g.calm = true → W.pn = []
  top : g.top = true → X.stack = X.env :: X.outer ∧ X.env.frame = some X.env.locals
variable {X : Cx} {W : WP} {g : Stat}
theorem odd_no {x : Str} (h : ¬ odd x = true) : (x == ("__debug__" : Str)) = false ∧ (x == ("__classdict__" : Str)) = false := by
  unfold odd at h
  simp only [Bool.or_eq_true, not_or, Bool.not_eq_true] at h
  exact h
theorem slot_ok (c : Ctx X W g) {x : Str} {i : Nat} (h : g.slot x = some i) : X.N[i]? = some x ∧ Vis X.env.scope x ∧ (x == ("__debug__" : Str)) = false ∧ (x == ("__classdict__" : Str)) = false := by
  unfold Stat.slot at h
  split at h
  · cases h
  · rename_i ho
    obtain ⟨o1, o2⟩ := odd_no ho
    rw [c.N]
    unfold Vis
    rw [c.sc]
    split at h
    · rename_i e; exact ⟨ixOf_get h, .inl e, o1, o2⟩
    · rename_i e; exact ⟨ixOf_get h, .inr (.inl e), o1, o2⟩
    · rename_i e; exact ⟨ixOf_get h, .inr (.inr e), o1, o2⟩
    · cases h
theorem glo_ok (c : Ctx X W g) {x : Str} {v : GV} (h : g.glo x = some v) : GvOk X g x v ∧ Gl X x ∧ (x == ("__debug__" : Str)) = false := by
  unfold Stat.glo at h
  split at h
  · cases h
  · rename_i ho
    obtain ⟨o1, o2⟩ := odd_no ho
    split at h
    · rename_i e
      refine ⟨c.glob x v h, ?_, o1⟩
      show X.env.scope.names.lookup x = _
      rw [c.sc]
      exact e
    · cases h
theorem sto_ok (c : Ctx X W g) {x : Str} {i : Nat} (h : g.sto x = some i) : X.N[i]? = some x ∧ Loc X.env.scope x ∧ (X.fn x = true ∨ X.env.scope.names.lookup x = some .local) := by
  unfold Stat.sto at h
  rw [c.N]
  split at h
  · rename_i e; exact ⟨ixOf_get h, .inl (c.loc x e), .inr (c.loc x e)⟩
  · rename_i e; exact ⟨ixOf_get h, .inr (c.cel x e).1, .inl (c.cel x e).2⟩
  · cases h
theorem loc_ok (c : Ctx X W g) {x : Str} {i : Nat} (h : g.loc x = some i) : X.N[i]? = some x ∧ X.env.scope.names.lookup x = some .local := by
  unfold Stat.loc at h
  rw [c.N]
  split at h
  · rename_i e; exact ⟨ixOf_get h, c.loc x e⟩
  · cases h
theorem name_ok (c : Ctx X W g) {x : Str} {p : Pos} : PE X (.Name x p) (tI X W (nameW g x)) := by
  unfold nameW
  split
  · rename_i i e
    obtain ⟨h1, h2, h3, h4⟩ := slot_ok c e
    exact pe_slot h1 h2 h3 h4
  · split
    · rename_i d e
      obtain ⟨⟨v, u, hm, hr, hv⟩, hg, hd⟩ := glo_ok c e
      exact pe_imp (pe_glob hg hm hr hd) (val_imp hv)
    · rename_i t e
      obtain ⟨⟨hm, hx⟩, hg, hd⟩ := glo_ok c e
      subst hx
      have hb : bootBuiltins (Str.ofString t.name) = some (.type t.name) := by cases t <;> decide +kernel
      have hn : (Str.ofString t.name) ≠ "__name__" := by cases t <;> decide +kernel
      exact pe_imp (pe_bltn hg hm hb (v := .ty t.name) rfl hn hd) (val_imp fun _ => .ty)
    · rename_i e
      obtain ⟨⟨⟨C, hm, hn, hf⟩, _⟩, hg, hd⟩ := glo_ok c e
      exact pe_imp (pe_glob hg hm (v := .ref C) rfl hd) (val_imp fun _ => .cls hn)
    · exact pe_stuck
theorem bin_ok {op : Operator} {a b : Expr} {pos : Pos} {m1 m2 : WE} (h1 : PE X a (tI X W m1)) (h2 : PE X b (tI X W m2)) : PE X (.BinOp a op b pos) (tI X W (binW op m1 m2)) := by
  cases op with
  | Add => exact pe_two op_addA o2_add h1 h2
  | Sub => exact pe_two op_sub o2_int0 h1 h2
  | Mult => exact pe_two op_mulB o2_mul h1 h2
  | FloorDiv => exact pe_two op_fdivA o2_int h1 h2
  | Mod => exact pe_two op_modN o2_int h1 h2
  | Pow => exact pe_two op_pow o2_int h1 h2
  | _ => exact pe_stuck
theorem cmp_ok (c : Ctx X W g) (op : CmpOp) : ∃ r, OpR X (compareOp op) r ∧ Op2 X (cmpK op) r := by
  cases op with
  | Eq => exact ⟨_, op_eqA c.units, o2_eq⟩
  | NotEq => exact ⟨_, op_neA c.units, o2_eq⟩
  | Lt => exact ⟨_, op_lt, o2_bl0⟩
  | LtE => exact ⟨_, op_le, o2_bl0⟩
  | Gt => exact ⟨_, op_gt, o2_bl0⟩
  | GtE => exact ⟨_, op_ge, o2_bl0⟩
  | Is => exact ⟨_, op_isA, o2_is⟩
  | IsNot => exact ⟨_, op_isnotA, o2_is⟩
  | In => exact ⟨_, op_inA, o2_in⟩
  | NotIn => exact ⟨_, op_notinA, o2_in⟩
theorem mark_of {op : CmpOp} {b : Expr} (h : notSet b = true) : behindInMarks op b = false := by
  cases b <;> first | rfl | cases h
theorem tg_ok (c : Ctx X W g) (hc : g.calm = true) : ∀ (n : Nat) (e : Expr) (t : Tg), tgOf g n e = some t → PG X e (gTg X t)
  | 0, _, _, h => by cases h
  | n + 1, e, t, h => by
    unfold tgOf at h
    split at h
    · rename_i x p
      cases e2 : g.sto x with
      | none => rw [e2] at h; cases h
      | some i =>
        rw [e2] at h
        cases h
        obtain ⟨h1, h2, h3⟩ := sto_ok c e2
        exact pg_nm (pg_name c.nd h1 h2 h3)
    · rename_i es k p
      split at h
      · rename_i hs
        cases e2 : allM (tgOf g n) es with
        | none => rw [e2] at h; cases h
        | some ts =>
          rw [e2] at h
          cases h
          exact pg_tp (c.calm hc) hs e2 fun e' _ t' h' => tg_ok c hc n e' t' h'
      · cases h
    · cases h
theorem bk_ok (b : Bk) (hc : X.calm = true) : ∃ r id, CallR X (.builtin id) r ∧ CallD X b.k r ∧ bootBuiltins b.name = some (.builtin id) ∧ b.name ≠ "__name__" := by
  cases b with
  | abs => exact ⟨_, "abs", call_abs, cd_abs, by decide +kernel, by decide +kernel⟩
  | len => exact ⟨_, "len", call_len_seq.or (call_len_str.or call_lenD), cd_len, by decide +kernel, by decide +kernel⟩
  | isi => exact ⟨_, "isinstance", call_isi, cd_isi, by decide +kernel, by decide +kernel⟩
  | all => exact ⟨_, "all", cr_all hc, cd_all, by decide +kernel, by decide +kernel⟩
  | any => exact ⟨_, "any", cr_any hc, cd_any, by decide +kernel, by decide +kernel⟩
  | sum => exact ⟨_, "sum", cr_sum hc, cd_sum, by decide +kernel, by decide +kernel⟩
  | max => exact ⟨_, "max", (call_max2 hc).or (cr_max hc), cd_max, by decide +kernel, by decide +kernel⟩
  | min => exact ⟨_, "min", (call_min2 hc).or (cr_min hc), cd_min, by decide +kernel, by decide +kernel⟩
theorem bt_ok {t : Bt} {k : List D → Sto → KE → Prop} (h : btK t = some k) : ∃ r, CallR X (.type t.name) r ∧ CallD X k r ∧ bootBuiltins (Str.ofString t.name) = some (.type t.name) ∧ Str.ofString t.name ≠ "__name__" := by
  cases t <;> unfold btK at h <;> cases h
  · exact ⟨_, call_int1, cd_int, by decide +kernel, by decide +kernel⟩
  · exact ⟨_, call_tuple_of, cd_tuple, by decide +kernel, by decide +kernel⟩
  · exact ⟨_, call_list_of, cd_list, by decide +kernel, by decide +kernel⟩
theorem ne_cons {args : List Expr} (h : (!args.isEmpty) = true) : ∃ e es, args = e :: es := by
  cases args with
  | nil => cases h
  | cons e es => exact ⟨e, es, rfl⟩
theorem call_okE (c : Ctx X W g) {f : Expr → WE} (hf : ∀ e, PE X e (tI X W (f e))) {x : Str} {p pos : Pos} {args : List Expr} : PE X (.Call (.Name x p) args [] pos) (tI X W (callE g f x args)) := by
  unfold callE
  split
  · rename_i F e
    split
    · rename_i hh
      simp only [Bool.and_eq_true] at hh
      obtain ⟨⟨h1, h2⟩, h3⟩ := hh
      obtain ⟨e1, es, rfl⟩ := ne_cons h3
      obtain ⟨d, hg, hd⟩ := glo_ok c e
      exact pe_callD c.tk (d h1) hg hd h2 fun a _ => hf a
    · exact pe_stuck
  · rename_i F e
    split
    · rename_i n p2
      split
      · exact pe_stuck
      · rename_i hc
        split
        · rename_i i ei
          obtain ⟨d, hg, hd⟩ := glo_ok c e
          obtain ⟨h1, h2, h3, h4⟩ := slot_ok c ei
          exact pe_callX c.tk d (c.hot (by simpa using hc)) h1 h2 h3 h4 hg hd
        · exact pe_stuck
    · exact pe_stuck
  · rename_i b e
    obtain ⟨⟨hm, hx⟩, hg, hd⟩ := glo_ok c e
    split
    · rename_i hc
      split
      · rename_i hh
        rw [Bool.and_eq_true] at hh
        obtain ⟨e1, es, rfl⟩ := ne_cons hh.2
        subst hx
        obtain ⟨r, id, k1, k2, k3, k4⟩ := bk_ok (X := X) b (c.calm hc)
        exact pe_bltD k1 k2 hg hm k3 k4 hd hh.1 fun a _ => hf a
      · exact pe_stuck
    · split
      · rename_i n p1 y p2
        subst hx
        split
        · rename_i i ei ey
          obtain ⟨h1, h2, h3, h4⟩ := slot_ok c ei
          obtain ⟨⟨_, ok⟩, hgy, hdy⟩ := glo_ok c ey
          exact pe_isiE h1 h2 h3 h4 hg hm ok hgy hdy c.pn
        · rename_i i ei ey
          obtain ⟨h1, h2, h3, h4⟩ := slot_ok c ei
          obtain ⟨ok, hgy, hdy⟩ := glo_ok c ey
          exact pe_isiE h1 h2 h3 h4 hg hm ok hgy hdy c.pn
        · exact pe_stuck
      · exact pe_stuck
  · rename_i t e
    obtain ⟨⟨hm, hx⟩, hg, hd⟩ := glo_ok c e
    split
    · rename_i k ek
      split
      · rename_i hh
        simp only [Bool.and_eq_true] at hh
        obtain ⟨⟨h1, h2⟩, h3⟩ := hh
        obtain ⟨e1, es, rfl⟩ := ne_cons h3
        subst hx
        obtain ⟨r, k1, k2, k3, k4⟩ := bt_ok (X := X) ek
        exact pe_tyD k1 k2 hg hm k3 k4 hd h2 fun a _ => hf a
      · exact pe_stuck
    · exact pe_stuck
  · exact pe_stuck
theorem lm_ok {name : Str} {k : D → List D → Sto → KE → Prop} (h : lmOf name = some k) : ∃ id r, Slot "list" name id ∧ typeOf (.builtin id) = pure (.type "method_descriptor") ∧ MtR X id r ∧ MethD X k r := by
  unfold lmOf at h
  split at h
  · rename_i e; cases h; subst e; exact ⟨_, _, PySem.F.slot_list_append, PySem.F.type_list_append, mt_append, md_append⟩
  · split at h
    · rename_i e; cases h; subst e; exact ⟨_, _, PySem.F.slot_list_count, PySem.F.type_list_count, mt_count, md_count⟩
    · split at h
      · rename_i e; cases h; subst e; exact ⟨_, _, PySem.F.slot_list_index, PySem.F.type_list_index, mt_index, md_index⟩
      · split at h
        · rename_i e; cases h; subst e; exact ⟨_, _, PySem.F.slot_list_extend, PySem.F.type_list_extend, mt_extend, md_extend⟩
        · cases h
end Vm
/-! VmJ: the reading of expressions is sound, all of it. -/
namespace Vm
open PySem PySem.Spec PyProof.Rows L2
theorem own_ok {N : List Str} {scope : Scope} : ∀ p ∈ ownOf N scope, N[p.2]? = some p.1 := by
  intro p hp
  unfold ownOf at hp
  obtain ⟨y, _, e⟩ := List.mem_filterMap.mp hp
  have key : ∀ i, ixOf y.1 N = some i → p = (y.1, i) → N[p.2]? = some p.1 := fun i h1 h2 => by rw [h2]; exact ixOf_get h1
  split at e
  · cases q : ixOf y.1 N with
    | none => rw [q] at e; cases e
    | some i => rw [q] at e; cases e; exact key i q rfl
  · cases q : ixOf y.1 N with
    | none => rw [q] at e; cases e
    | some i => rw [q] at e; cases e; exact key i q rfl
  · cases e
theorem gv_blk {X : Cx} {g : Stat} {s : Shared} {H : Hp} {scope : Scope} {ce : Env} {fp : List Addr} {x : Str} {v : GV} (h : GvOk X g x v) : GvOk (X.blk s H scope ce fp) (g.blk scope) x v := by
  cases v with
  | fn F => exact fun hc => ⟨(h hc).ex⟩
  | fnx F => exact ⟨h.ex⟩
  | con d => exact h
  | exc => exact ⟨⟨h.1.ex⟩, ⟨h.2.ex⟩⟩
  | bex => exact ⟨h.ex⟩
  | bi b => exact h
  | bt t => exact h
  | rng => exact h
theorem ctx_blk {X : Cx} {W : WP} {g : Stat} (c : Ctx X W g) (hc : g.calm = true) {s : Shared} {H : Hp} {scope : Scope} {C : Addr} {cl : List (Str × Addr)} {fp : List Addr} (hk : scope.kind = .function) : Ctx (X.blk s H scope (compEnvC scope cl C X.env) fp) W0 (g.blk scope) where
  N := c.N
  nd := c.nd
  sc := by show relS scope X.env.scope = relS scope g.sc; rw [c.sc]
  loc := fun x h => lookup_relS_keep (by intro z; cases z) h
  cel := fun x h => ⟨lookup_relS_keep (by intro z; cases z) h, by
    show (scope.names.lookup x == some .cell) = true
    have h' : scope.names.lookup x = some .cell := h
    rw [h'] <;> rfl⟩
  calm := fun _ => c.calm hc
  hot := fun z => by
    have z' : g.calm = false := z
    rw [hc] at z'
    cases z'
  pn := fun q h => nomatch h
  tk := fun u s' ⟨_, _, _, _, _, _, _, _, _, _, _, _, _, _, _, _, w⟩ => w.elim
  glob := fun x v h => gv_blk (c.glob x v h)
  units := c.units
  sub := c.sub
  own := PassesOwn.never
  kind := hk
  pn0 := fun _ => rfl
  top := fun z => nomatch z
variable {X : Cx} {W : WP} {g : Stat}
theorem stepE_ok {f : FE} {ft : FT} {fi : FI} (hf : ∀ X W g, Ctx X W g → ∀ e, PE X e (tI X W (f g e))) (ht : ∀ X W g, Ctx X W g → ∀ e, PT X e (tT X W (ft g e))) (hi : ∀ X W g, Ctx X W g → ∀ tg e, PI X tg e (tIt X W (fi g e)))
    (c : Ctx X W g) (e : Expr) : PE X e (tI X W (stepE g f ft fi e)) := by
  have hE := hf X W g c
  have hT := ht X W g c
  unfold stepE
  split
  · exact pe_const
  · exact name_ok c
  · exact bin_ok (hE _) (hE _)
  · exact pe_neg (hE _)
  · exact pe_notD (hE _)
  · exact pe_andD fun e _ => hE e
  · exact pe_orD fun e _ => hE e
  · exact pe_ifD (hT _) (hE _) (hE _)
  · rename_i a op b p
    split
    · rename_i hb
      obtain ⟨r, k1, k2⟩ := cmp_ok c op
      exact pe_cmp2 k1 k2 (hE _) (hE _) (mark_of hb)
    · exact pe_stuck
  · rename_i a o1 o2 b c' p
    split
    · rename_i hb
      obtain ⟨r, k1, k2⟩ := cmp_ok c o1
      obtain ⟨r', k3, k4⟩ := cmp_ok c o2
      exact pe_chainD k1 k3 k2 k4 (hE _) (hE _) (hE _) (mark_of hb)
    · exact pe_stuck
  · split
    · rename_i hh
      rw [Bool.and_eq_true] at hh
      exact pe_tupD (of_decide_eq_true hh.2) hh.1 fun e _ => hE e
    · exact pe_stuck
  · split
    · rename_i hh
      rw [Bool.and_eq_true] at hh
      exact pe_lstD (of_decide_eq_true hh.2) hh.1 fun e _ => hE e
    · exact pe_stuck
  · exact pe_slD (hE _) (fun x _ => hE x) (fun x _ => hE x)
  · split
    · rename_i hb
      exact pe_ixD hb (hE _) (hE _)
    · exact pe_stuck
  · rename_i elt tg iter ifs scope pos
    split
    · rename_i hh
      simp only [Bool.and_eq_true] at hh
      obtain ⟨⟨hc, hset⟩, hblk⟩ := hh
      split
      · rename_i t et
        split
        · rename_i hsl
          have hslots : ∀ j ∈ t.slots, j ∈ (ownOf g.N scope).map (·.2) := fun j hj => of_decide_eq_true (List.all_eq_true.mp hsl j hj)
          have ok : BlkOk X.N X.env.scope scope (ownOf g.N scope) := by rw [c.N, c.sc]; exact blkOk_by hblk
          have cb := fun (s : Shared) (H : Hp) (C : Addr) (cl : List (Str × Addr)) (fp : List Addr) => ctx_blk c hc (s := s) (H := H) (scope := scope) (C := C) (cl := cl) (fp := fp) ok.kind
          refine pe_imp (pe_lc (c.calm hc) c.nd (hi X W g c tg iter) ok (fun s H C cl fp => tg_ok (cb s H C cl fp) hc 8 tg t et) (tt := tT X W0 (condW (ft (g.blk scope)) ifs)) (fun s H C cl fp => ?_) (fun s H C cl fp => hf _ _ _ (cb s H C cl fp) elt) (folded_of hset)) (lc_imp hslots)
          match ifs with
          | [] => exact pts_yes
          | [a] => exact pts_one (ht _ _ _ (cb s H C cl fp) a)
          | a :: b :: r => exact ⟨fun _ _ _ _ _ _ h => by obtain ⟨_, _, _, _, _, _, h, _⟩ := h; exact h.elim⟩
        · exact pe_stuck
      · exact pe_stuck
    · exact pe_stuck
  · exact call_okE c hE
  · rename_i o name apos args cpos
    split
    · rename_i k ek
      split
      · rename_i hh
        simp only [Bool.and_eq_true] at hh
        obtain ⟨⟨⟨⟨h1, h2⟩, h3⟩, h4⟩, h5⟩ := hh
        obtain ⟨e1, es, rfl⟩ := ne_cons h2
        obtain ⟨id, r, k1, k2, k3, k4⟩ := lm_ok (X := X) ek
        refine pe_lmD k1 k2 k3 k4 (hE o) h1 (fun a _ => hE a) ?_ (of_decide_eq_true h3) h4
        cases o <;> first | rfl | (cases h5)
      · exact pe_stuck
    · exact pe_stuck
  · exact pe_stuck
theorem stepT_ok {f : FE} {ft : FT} (hf : ∀ X W g, Ctx X W g → ∀ e, PE X e (tI X W (f g e))) (ht : ∀ X W g, Ctx X W g → ∀ e, PT X e (tT X W (ft g e))) (c : Ctx X W g) (e : Expr) : PT X e (tT X W (stepT g f ft e)) := by
  have hE := hf X W g c
  have hT := ht X W g c
  unfold stepT
  split
  · exact pt_notD (hT _)
  · exact (pw_andD fun e _ => hT e).pt
  · exact (pw_orD fun e _ => hT e).pt
  · rename_i a op b p
    split
    · rename_i hb
      obtain ⟨r, k1, k2⟩ := cmp_ok c op
      exact pt_cmp2 k1 k2 (hE _) (hE _) (mark_of hb)
    · exact pt_stuck
  · rename_i a o1 o2 b c' p
    split
    · rename_i hb
      obtain ⟨r, k1, k2⟩ := cmp_ok c o1
      obtain ⟨r', k3, k4⟩ := cmp_ok c o2
      exact pt_chainD k1 k3 k2 k4 (hE _) (hE _) (hE _) (mark_of hb)
    · exact pt_stuck
  · exact pt_of (hE _) (fun _ => rfl)
  · exact pt_of (hE _) (fun _ => rfl)
  · exact pt_of (hE _) (fun _ => rfl)
  · exact pt_of (hE _) (fun _ => rfl)
  · exact pt_of (hE _) (fun _ => rfl)
  · exact pt_stuck
theorem stepI_ok {f : FE} (hf : ∀ X W g, Ctx X W g → ∀ e, PE X e (tI X W (f g e))) (c : Ctx X W g) (tg e : Expr) : PI X tg e (tIt X W (stepI g f e)) := by
  have hE := hf X W g c
  unfold stepI
  split
  · rename_i x p a pos
    split
    · rename_i eg
      obtain ⟨⟨hm, hx⟩, hg, hd⟩ := glo_ok c eg
      subst hx
      split
      · rename_i hs
        exact pi_rng1 hg hm hs (hE _)
      · exact pi_stuck
    · exact pi_valD (hE _)
  · rename_i x p a b pos
    split
    · rename_i eg
      obtain ⟨⟨hm, hx⟩, hg, hd⟩ := glo_ok c eg
      subst hx
      split
      · rename_i hs
        rw [Bool.and_eq_true] at hs
        exact pi_rng2 hg hm hs.1 hs.2 (hE _) (hE _)
      · exact pi_stuck
    · exact pi_valD (hE _)
  · exact pi_valD (hE _)
theorem wAll_ok : ∀ n : Nat, (∀ X W g, Ctx X W g → ∀ e, PE X e (tI X W ((wAll n).1 g e))) ∧ (∀ X W g, Ctx X W g → ∀ e, PT X e (tT X W ((wAll n).2.1 g e))) ∧ (∀ X W g, Ctx X W g → ∀ tg e, PI X tg e (tIt X W ((wAll n).2.2 g e)))
  | 0 => ⟨fun _ _ _ _ _ => pe_stuck, fun _ _ _ _ _ => pt_stuck, fun _ _ _ _ _ _ => pi_stuck⟩
  | n + 1 => by
    obtain ⟨h1, h2, h3⟩ := wAll_ok n
    exact ⟨fun X W g c e => stepE_ok h1 h2 h3 c e, fun X W g c e => stepT_ok h1 h2 c e, fun X W g c tg e => stepI_ok h1 c tg e⟩
end Vm
/-! VmK: the reading of statements is sound. -/
namespace Vm
open PySem PySem.Spec PyProof.Rows L2
variable {X : Cx} {W : WP} {g : Stat}
theorem ps_false {st : Stmt} {m : WS} (h : ∀ Γ S D E, ¬ m Γ S D E) : PS X st (tS X W m) := ⟨fun _ _ _ _ _ _ q => by obtain ⟨_, _, _, _, _, _, z, _⟩ := q; exact (h _ _ _ _ z).elim⟩
theorem swap_expr {e : Expr} {l : Nat} {env : Env} (h : plainE e = true) : swapsWith e none l env = pure false := by
  cases e <;> first | rfl | cases h
theorem swap_plain {e tg : Expr} {l : Nat} {env : Env} (h : plainE e = true) : swapsWith e (some tg) l env = pure false := by
  cases e <;> first | rfl | cases h
theorem swap_lc {elt : Expr} {gs : List Comprehension} {scope : Scope} {pos py : Pos} {y : Str} {l : Nat} {env : Env} :
    swapsWith (.ListComp elt gs scope pos) (some (.Name y py)) l env = pure (env.blockKind == .function && env.kindOf y == some .local && py.line == pos.line && !(scope.names.any fun (n, k) => n == y && (k == .local || k == .cell))) := by
  unfold swapsWith
  rfl
theorem swap_other {elt : Expr} {gs : List Comprehension} {scope : Scope} {pos : Pos} {tg : Expr} {l : Nat} {env : Env} (h : ∀ y p, tg ≠ .Name y p) : swapsWith (.ListComp elt gs scope pos) (some tg) l env = pure false := by
  unfold swapsWith
  cases tg <;> first | rfl | exact absurd rfl (h _ _)
/-- name = [..] -/
theorem lc_assign (c : Ctx X W g) {n : Nat} {x : Str} {i : Nat} (hx : g.sto x = some i) {elt : Expr} {gs : List Comprehension} {scope : Scope} {pos py spos : Pos} :
    PS X (.Assign [.Name x py] (.ListComp elt gs scope pos) spos) (tS X W (asgS ((wAll n).1 g (.ListComp elt gs scope pos)) (nmW (.nm i)))) := by
  obtain ⟨h1, h2, h3⟩ := sto_ok c hx
  have sw := swap_lc (elt := elt) (gs := gs) (scope := scope) (pos := pos) (py := py) (y := x) (l := spos.line) (env := X.env)
  cases hb : (X.env.blockKind == .function && X.env.kindOf x == some .local && py.line == pos.line && !(scope.names.any fun (n, k) => n == x && (k == .local || k == .cell))) with
  | false =>
    rw [hb] at sw
    exact ps_setD c.nd h1 h2 ((wAll_ok n).1 X W g c _) sw h3
  | true =>
    rw [hb] at sw
    have hl : X.env.scope.names.lookup x = some .local := by
      simp only [Bool.and_eq_true, beq_iff_eq] at hb
      exact hb.1.1.2
    cases n with
    | zero => exact ps_false fun Γ S D E z => z
    | succ n =>
      obtain ⟨hf, ht, hi⟩ := wAll_ok n
      show PS X _ (tS X W (asgS (stepE g (wAll n).1 (wAll n).2.1 (wAll n).2.2 (.ListComp elt gs scope pos)) (nmW (.nm i))))
      unfold stepE
      split
      all_goals first
        | (rename_i heq; cases heq; done)
        | skip
      · rename_i elt' tg iter ifs scope' pos' heq
        cases heq
        split
        · rename_i hh
          simp only [Bool.and_eq_true] at hh
          obtain ⟨⟨hc, hset⟩, hblk⟩ := hh
          split
          · rename_i t et
            split
            · rename_i hsl
              have hslots : ∀ j ∈ t.slots, j ∈ (ownOf g.N scope).map (·.2) := fun j hj => of_decide_eq_true (List.all_eq_true.mp hsl j hj)
              have ok : BlkOk X.N X.env.scope scope (ownOf g.N scope) := by rw [c.N, c.sc]; exact blkOk_by hblk
              have cb := fun (s : Shared) (H : Hp) (C : Addr) (cl : List (Str × Addr)) (fp : List Addr) => ctx_blk c hc (s := s) (H := H) (scope := scope) (C := C) (cl := cl) (fp := fp) ok.kind
              refine ps_setLcD (c.calm hc) c.nd h1 hl sw (hi X W g c tg iter) ok hslots (fun s H C cl fp => tg_ok (cb s H C cl fp) hc 8 tg t et) (fun s H C cl fp => ?_) (fun s H C cl fp => hf _ _ _ (cb s H C cl fp) elt) (folded_of hset)
              match ifs with
              | [] => exact pts_yes
              | [a] => exact pts_one (ht _ _ _ (cb s H C cl fp) a)
              | a :: b :: r => exact ⟨fun _ _ _ _ _ _ h => by obtain ⟨_, _, _, _, _, _, h, _⟩ := h; exact h.elim⟩
            · exact ps_false fun Γ S D E z => z
          · exact ps_false fun Γ S D E z => z
        · exact ps_false fun Γ S D E z => z
      · exact ps_false fun Γ S D E z => z
theorem tup_sole {es : List Expr} {k : Nat} {p : Pos} {env : Env} : (assignEach [Expr.Tuple es k p] env).map (·.2) = [assign (.Tuple es k p) env] := rfl
theorem asgT_ok (c : Ctx X W g) {n : Nat} {es : List Expr} {k : Nat} {p : Pos} {e : Expr} {pos : Pos} (h : (match e with | .Name _ _ => true | .Call _ _ _ _ => true | .ListComp _ _ _ _ => true | .Subscript _ _ _ => true | _ => false) = true) :
    PS X (.Assign [.Tuple es k p] e pos) (tS X W (asgE.asgT g (wAll n).1 (.Tuple es k p) e)) := by
  unfold asgE.asgT
  split
  · rename_i hc
    split
    · rename_i t et
      have he := (wAll_ok n).1 X W g c e
      have hg : PG X (.Tuple es k p) (tGt X W (nmW t)) := pg_imp (tg_ok c hc 8 _ t et) nm_imp
      have h1 : swapsWithSole [Expr.Tuple es k p] e pos.line X.env = pure false := by
        show swapsWith e (some (.Tuple es k p)) pos.line X.env = pure false
        cases e <;> first | exact swap_other (fun y q z => nomatch z) | exact swap_plain rfl | cases h
      have h2 : swappedStores [Expr.Tuple es k p] e X.env = pure none := by
        cases e <;> first | rfl | cases h
      exact ps_asgD he hg h1 h2 tup_sole
    · exact ps_stuck
  · exact ps_stuck
theorem blk_fn (h : X.env.scope.kind = .function) : X.env.blockKind = .function := by
  unfold Env.blockKind
  rw [h]
  rfl
theorem not_star_any {es : List Expr} (h : es.all notStar = true) : (es.any fun | .Starred .. => true | _ => false) = false := by
  induction es with
  | nil => rfl
  | cons e es ih =>
    rw [List.all_cons, Bool.and_eq_true] at h
    rw [List.any_cons, ih h.2]
    cases e <;> first | rfl | cases h.1
theorem all2 {a b : Expr} (h : [a, b].all notStar = true) : notStar a = true ∧ notStar b = true := by simpa using h
theorem all3 {a b c : Expr} (h : [a, b, c].all notStar = true) : notStar a = true ∧ notStar b = true ∧ notStar c = true := by simpa using h
theorem sw2 {x y : Str} {px py pt pt2 : Pos} {kt k2 : Nat} {a b : Expr} (hk : X.env.scope.kind = .function) (hx : X.env.scope.names.lookup x = some .local) (hy : X.env.scope.names.lookup y = some .local) (hne : x ≠ y) (hl : px.line = py.line) (hs : [a, b].all notStar = true) (hp : parOk [] [a, b] = true) :
    swappedStores [.Tuple [.Name x px, .Name y py] kt pt] (.Tuple [a, b] k2 pt2) X.env = pure (some [x, y]) := by
  unfold parOk at hp
  simp only [Bool.and_eq_true, Bool.not_eq_true'] at hp
  have kx : X.env.kindOf x = some .local := hx
  have ky : X.env.kindOf y = some .local := hy
  have hn : (x == y) = false := by simpa using hne
  have hn2 : (y == x) = false := by simpa using (Ne.symm hne)
  have e1 : ([x, y] : List Str).eraseDups = [x, y] := by
    simp [List.eraseDups_cons, hn, hn2]
  obtain ⟨s1, s2⟩ := all2 hs
  unfold swappedStores
  simp only [blk_fn hk, hp.1, hp.2]
  simp [Expr.pos, kx, ky, hl, e1]
  intro h
  rcases h with h | h
  · cases a <;> first | (cases s1; done) | (cases h; done)
  · cases b <;> first | (cases s2; done) | (cases h; done)
theorem sw3 {x y z : Str} {px py pz pt pt2 : Pos} {kt k2 : Nat} {a b c : Expr} (hk : X.env.scope.kind = .function) (hx : X.env.scope.names.lookup x = some .local) (hy : X.env.scope.names.lookup y = some .local) (hz : X.env.scope.names.lookup z = some .local) (hxy : x ≠ y) (hxz : x ≠ z) (hyz : y ≠ z) (hl : px.line = py.line) (hl2 : px.line = pz.line) (hs : [a, b, c].all notStar = true) (hp : parOk [] [a, b, c] = true) :
    swappedStores [.Tuple [.Name x px, .Name y py, .Name z pz] kt pt] (.Tuple [a, b, c] k2 pt2) X.env = pure (some [x, y, z]) := by
  unfold parOk at hp
  simp only [Bool.and_eq_true, Bool.not_eq_true'] at hp
  have kx : X.env.kindOf x = some .local := hx
  have ky : X.env.kindOf y = some .local := hy
  have kz : X.env.kindOf z = some .local := hz
  have n1 : (y == x) = false := by simpa using (Ne.symm hxy)
  have n2 : (z == x) = false := by simpa using (Ne.symm hxz)
  have n3 : (z == y) = false := by simpa using (Ne.symm hyz)
  have e1 : ([x, y, z] : List Str).eraseDups = [x, y, z] := by
    simp [List.eraseDups_cons, n1, n2, n3]
  obtain ⟨s1, s2, s3⟩ := all3 hs
  unfold swappedStores
  simp only [blk_fn hk, hp.1, hp.2]
  simp [Expr.pos, kx, ky, kz, hl.symm, hl2.symm, e1]
  intro h
  rcases h with h | h | h
  · cases a <;> first | (cases s1; done) | (cases h; done)
  · cases b <;> first | (cases s2; done) | (cases h; done)
  · cases c <;> first | (cases s3; done) | (cases h; done)
end Vm
/-! VmL: the reading of a def's whole text is sound. -/
namespace Vm
open PySem PySem.Spec PyProof.Rows L2
variable {X : Cx} {W : WP} {g : Stat}
theorem ix_ne {N : List Str} {x y : Str} {i j : Nat} (h1 : N[i]? = some x) (h2 : N[j]? = some y) (h : x ≠ y) : i ≠ j := fun e => by
  subst e
  rw [h1] at h2
  exact h (Option.some.inj h2)
theorem mk2 {a b : Expr} (h1 : notStar a = true) (h2 : notStar b = true) : [a, b].all notStar = true := by simp [h1, h2]
theorem mk3 {a b c : Expr} (h1 : notStar a = true) (h2 : notStar b = true) (h3 : notStar c = true) : [a, b, c].all notStar = true := by simp [h1, h2, h3]
theorem asgE_ok (c : Ctx X W g) {n : Nat} {tg e : Expr} {pos : Pos} : PS X (.Assign [tg] e pos) (tS X W (asgE g (wAll n).1 tg e)) := by
  have hE := (wAll_ok n).1 X W g c
  unfold asgE
  split
  · rename_i x p
    split
    · rename_i i ei
      split
      · rename_i ht
        obtain ⟨h1, h2, h3⟩ := sto_ok c ei
        by_cases hl : plainE e = true
        · exact ps_setD c.nd h1 h2 (hE e) (swap_plain hl) h3
        · cases e with
          | ListComp elt gs scope pos2 => exact lc_assign c ei
          | SetComp _ _ _ _ => exact ps_false fun Γ S D E z => by cases n <;> exact z
          | DictComp _ _ _ _ _ => exact ps_false fun Γ S D E z => by cases n <;> exact z
          | Starred _ _ => exact ps_false fun Γ S D E z => by cases n <;> exact z
          | Slice _ _ _ _ => exact ps_false fun Γ S D E z => by cases n <;> exact z
          | _ => exact absurd rfl hl
      · exact ps_stuck
    · exact ps_stuck
  · split
    · rename_i hh
      rw [Bool.and_eq_true] at hh
      refine ps_asgD (hE e) (pg_subD (hE _) (hE _) hh.2) ?_ ?_ rfl
      · have hp := hh.1
        cases e <;> first | rfl | (cases hp; done) | exact swap_plain hp
      · cases e <;> rfl
    · exact ps_stuck
  · split
    · split
      · rename_i i j ei ej
        split
        · rename_i hh
          simp only [Bool.and_eq_true, decide_eq_true_eq] at hh
          obtain ⟨⟨⟨⟨⟨hc, hne⟩, hl⟩, s1⟩, s2⟩, hp⟩ := hh
          obtain ⟨h1, h2⟩ := loc_ok c ei
          obtain ⟨h3, h4⟩ := loc_ok c ej
          have hs := mk2 s1 s2
          exact ps_parD (c.calm hc) c.nd h1 h3 (ix_ne h1 h3 hne) h2 h4 hs (fun e _ => hE e) (sw2 c.kind h2 h4 hne hl hs hp)
        · exact ps_stuck
      · exact ps_stuck
    · exact asgT_ok c rfl
    · exact asgT_ok c rfl
    · exact asgT_ok c rfl
    · exact asgT_ok c rfl
    · exact ps_stuck
  · split
    · split
      · rename_i i j l ei ej el
        split
        · rename_i hh
          simp only [Bool.and_eq_true, decide_eq_true_eq] at hh
          obtain ⟨⟨⟨⟨⟨⟨⟨⟨⟨hc, hxy⟩, hxz⟩, hyz⟩, hl⟩, hl2⟩, s1⟩, s2⟩, s3⟩, hp⟩ := hh
          obtain ⟨h1, h2⟩ := loc_ok c ei
          obtain ⟨h3, h4⟩ := loc_ok c ej
          obtain ⟨h5, h6⟩ := loc_ok c el
          have hs := mk3 s1 s2 s3
          exact ps_par3D (c.calm hc) c.nd h1 h3 h5 (ix_ne h1 h3 hxy) (ix_ne h1 h5 hxz) (ix_ne h3 h5 hyz) h2 h4 h6 hs (fun e _ => hE e) (sw3 c.kind h2 h4 h6 hxy hxz hyz hl hl2 hs hp)
        · exact ps_stuck
      · exact ps_stuck
    · exact asgT_ok c rfl
    · exact asgT_ok c rfl
    · exact asgT_ok c rfl
    · exact asgT_ok c rfl
    · exact ps_stuck
  · split
    · exact asgT_ok c rfl
    · exact asgT_ok c rfl
    · exact asgT_ok c rfl
    · exact asgT_ok c rfl
    · exact ps_stuck
  · exact ps_stuck
theorem gv_tr {x : Str} {v : GV} {pn : Pn} {xe : Value → Shared → Prop} (h : GvOk X g x v) : GvOk (X.tr pn xe) g x v := by
  cases v with
  | fn F => exact fun hc => ⟨(h hc).ex⟩
  | fnx F => exact ⟨h.ex⟩
  | con d => exact h
  | exc => exact ⟨⟨h.1.ex⟩, ⟨h.2.ex⟩⟩
  | bex => exact ⟨h.ex⟩
  | bi b => exact h
  | bt t => exact h
  | rng => exact h
theorem ctx_tr (c : Ctx X W g) (hc : g.calm = true) {W' : WX} {pn : Pn} {xe : Value → Shared → Prop} (tk : L2N.Takes (X.tr pn xe) W') (own : PassesOwn (model X.prog X.w) X.A X.env xe) : Ctx (X.tr pn xe) ⟨W', W.pn⟩ g where
  N := c.N
  nd := c.nd
  sc := c.sc
  loc := c.loc
  cel := c.cel
  calm := c.calm
  hot := fun z => by rw [hc] at z; cases z
  pn := fun q h => by
    have h' : q ∈ W.pn := h
    rw [c.pn0 hc] at h'
    cases h'
  tk := tk
  glob := fun x v h => gv_tr (c.glob x v h)
  units := c.units
  sub := c.sub
  own := own
  kind := c.kind
  pn0 := c.pn0
  top := c.top
theorem gv_su {x : Str} {v : GV} {pn : Pn} {a : Addr} (h : GvOk X g x v) : GvOk (X.suite a pn) { g with calm := false } x v := by
  cases v with
  | fn F => exact fun hc => Bool.noConfusion hc
  | fnx F =>
    obtain ⟨f, fd, k, ps, h1, h2, h3, h4, h5⟩ := h.ex
    exact ⟨f, fd, k, ps, h1, h2, h3, h4, ⟨h5.dp, h5.un⟩⟩
  | con d => exact h
  | exc => exact ⟨⟨h.1.ex⟩, ⟨h.2.ex⟩⟩
  | bex => exact ⟨h.ex⟩
  | bi b => exact h
  | bt t => exact h
  | rng => exact h
theorem ctx_su (c : Ctx X W g) {a : Addr} {oe : Obj} {cls : Value} {d : Option Addr} {pn : Pn} (hz : L2N.Zn cls d oe) (hd : ∃ vs, oe.data = .fields vs) : Ctx (X.suite a ((a, oe) :: pn)) ⟨W0.w, [(a, oe)]⟩ { g with calm := false } where
  N := c.N
  nd := c.nd
  sc := c.sc
  loc := c.loc
  cel := c.cel
  calm := fun z => Bool.noConfusion z
  hot := fun _ => ⟨(a, oe), rfl, ⟨rfl, by
    obtain ⟨vs, e⟩ := hd
    exact ⟨vs, e, hz.2.2 vs e⟩⟩, List.mem_cons_self⟩
  pn := fun q h => by
    rw [List.mem_singleton.mp h]
    exact List.mem_cons_self
  tk := fun u s' ⟨_, _, _, _, _, _, _, _, _, _, _, _, _, _, _, _, w⟩ => w.elim
  glob := fun x v h => gv_su (c.glob x v h)
  units := c.units
  sub := c.sub
  own := PassesOwn.never
  kind := c.kind
  pn0 := fun z => Bool.noConfusion z
  top := c.top
theorem stepS_ok {n : Nat} {fs : Stat → List Stmt → WS} (hs : ∀ X W g, Ctx X W g → ∀ sts, PSs X sts (tS X W (fs g sts))) (c : Ctx X W g) (st : Stmt) : PS X st (tS X W (stepS g (wAll n).1 (wAll n).2.1 (wAll n).2.2 fs st)) := by
  have hE := (wAll_ok n).1 X W g c
  have hT := (wAll_ok n).2.1 X W g c
  have hI := (wAll_ok n).2.2 X W g c
  have hS := hs X W g c
  unfold stepS
  split
  · exact ps_passD
  · split
    · rename_i hp
      exact ps_exprD (hE _) (swap_expr hp)
    · exact ps_stuck
  · exact ps_retND
  · exact ps_retD (hE _)
  · exact ps_ifD' (hT _) (hS _) (hS _)
  · exact ps_whileD c.own (hT _) (hS _)
  · split
    · rename_i hh
      rw [Bool.and_eq_true] at hh
      split
      · rename_i t et
        exact ps_forD c.own (c.calm hh.1) (hI _ _) (tg_ok c hh.1 8 _ t et) (hS _) (folded_of hh.2)
      · exact ps_stuck
    · exact ps_stuck
  · exact asgE_ok c
  · split
    · rename_i hc
      split
      · rename_i e
        obtain ⟨⟨ok, _⟩, hg, hd⟩ := glo_ok c e
        exact ps_raiseD (c.calm hc) c.tk ok hg hd
      · exact ps_stuck
    · exact ps_stuck
  · split
    · rename_i hh
      rw [Bool.and_eq_true] at hh
      split
      · rename_i i e el
        obtain ⟨⟨ok, _⟩, hg, hd⟩ := glo_ok c e
        obtain ⟨C, hm, nC, f1, f2, f3, f4⟩ := ok.ex
        obtain ⟨h1, h2⟩ := loc_ok c el
        obtain ⟨t1, t2⟩ := c.top hh.2
        refine ps_tryAsD t1 t2 c.nd h1 h2 ⟨hg, hd, .inl hm⟩ nC c.sub c.tk (fun W' pn xe tk own => hs _ _ _ (ctx_tr c hh.1 tk own) _) (fun a oe cls d pn hz hv => hs _ _ _ (ctx_su c hz hv) _)
      · exact ps_stuck
    · exact ps_stuck
  · exact ps_stuck
theorem wS_ok {m : Nat} : ∀ (n : Nat) (X : Cx) (W : WP) (g : Stat), Ctx X W g → ∀ sts, PSs X sts (tS X W (wS m n g sts))
  | 0, X, W, g, c, sts => ⟨fun _ _ _ _ _ _ h => by obtain ⟨_, _, _, _, _, _, h, _⟩ := h; exact h.elim⟩
  | n + 1, X, W, g, c, sts => pss_seq fun st _ => stepS_ok (wS_ok n) c st
end Vm
/-! VmM: a def keeps its plain promise. -/
namespace Vm
open PySem PySem.Spec PyProof.Rows L2
def gOf (N : List Str) (sc : Scope) (G : List (Str × GV)) (sub isi : Subs) (calm : Bool) : Stat := { N := N, sc := sc, sn := sc.names, G := G, calm := calm, top := true, sub := sub, isi := isi }
section
variable (P : Program) (w : World) (K : PySem.W.Frag) (mg : Str → Option Value) (base : Heap)
/-- a def stands at a name, its level at most k -/
def FnK (k : Nat) (x : Str) (F : FS) : Prop := ∃ f fd j ps, mg x = some (.ref f) ∧ PySem.W.keepIn K (.ref f) = true ∧ FnOk P w K mg base (L2N.CX P w) j f fd ps (spOf K F) ∧ Binds K fd ps [] ∧ j ≤ k
def FnKX (k : Nat) (x : Str) (F : FS) : Prop := ∃ f fd j ps, mg x = some (.ref f) ∧ PySem.W.keepIn K (.ref f) = true ∧ FnX P w K mg base j f fd ps (spX K F) ∧ Binds K fd ps [] ∧ j ≤ k
def ExcK (x : Str) : Prop := ∃ C, mg x = some (.ref C) ∧ PySem.W.nsIn K mainGlobals x = some (some (.ref C)) ∧ excFacts K C
def IsiK (tb : Subs) (y : Str) : Prop := ∃ v u, ClsV v u ∧ RelV v u ∧ (mg y = some u ∨ (mg y = none ∧ bootBuiltins y = some u ∧ y ≠ "__name__")) ∧ ∀ x b C, tb.lookup (x, y) = some b → PySem.W.nsIn K mainGlobals x = some (some (.ref C)) → isiFacts K C ∧ PySem.W.kitOne K (.ref C) u = some b
def GvK (k : Nat) (isi : Subs) (x : Str) : GV → Prop
  | .fn F => FnK P w K mg base k x F
  | .fnx F => FnKX P w K mg base k x F
  | .con d => ∃ v u, mg x = some u ∧ RelV v u ∧ ∀ H, RV K H v d
  | .exc => ExcK K mg x ∧ IsiK K mg isi x
  | .bex => IsiK K mg isi x
  | .bi b => mg x = none ∧ x = b.name
  | .bt t => mg x = none ∧ x = Str.ofString t.name
  | .rng => mg x = none ∧ x = ("range" : Str)
def GsK (k : Nat) (isi : Subs) : List (Str × GV) → Prop
  | [] => True
  | p :: r => GvK P w K mg base k isi p.1 p.2 ∧ GsK k isi r
end
variable {P : Program} {w : World} {K : PySem.W.Frag} {mg : Str → Option Value} {base : Heap} {k : Nat} {isi sub : Subs}
theorem gsK_at : ∀ {G : List (Str × GV)}, GsK P w K mg base k isi G → ∀ x v, G.lookup x = some v → GvK P w K mg base k isi x v
  | [], _, x, v, e => by cases e
  | (y, u) :: r, h, x, v, e => by
    rw [List.lookup_cons] at e
    split at e
    · rename_i q
      cases e
      rw [beq_iff_eq.mp q]
      exact h.1
    · exact gsK_at h.2 x v e
def Weak (Q : Sto → Prop) (S' : Sto) : Prop := ∃ S0, Sub S0 S' ∧ Q S0
theorem Weak.of {Q : Sto → Prop} {S : Sto} (h : Q S) : Weak Q S := ⟨S, Sub.refl, h⟩
def startG (N : List Str) (ds : List D) : Gam := ds.map some ++ List.replicate (N.length - ds.length) none
theorem RLs.get {pn : Pn} {H : Hp} : ∀ {vs : List V} {ds : List D}, RLs K pn H vs ds → ∀ (i : Nat) (d : D), ds[i]? = some d → ∃ v, vs[i]? = some v ∧ RL K pn H v d
  | _, _, .nil, i, d, e => by simp at e
  | _, _, .cons r t, 0, d, e => by simp at e; subst e; exact ⟨_, rfl, r⟩
  | _, _, .cons r t, i + 1, d, e => by
    obtain ⟨v, h1, h2⟩ := RLs.get t i d (by simpa using e)
    exact ⟨v, by simpa using h1, h2⟩
theorem rl_of {H : Hp} {vs : List V} {ds : List D} {pn : Pn} (h : RVs K H vs ds) : RLs K pn H vs ds := by
  induction h with
  | nil => exact .nil
  | cons r _ ih => exact .cons (.val r) ih
theorem rg_start {pn : Pn} {H : Hp} {N : List Str} {vs : List V} {ds : List D} (r : RLs K pn H vs ds) : RG K pn H (L2.start N vs) (startG N ds) := by
  have hl : vs.length = ds.length := Paired.length r
  refine ⟨by unfold L2.start startG; simp [hl], fun i d e => ?_⟩
  unfold startG at e
  by_cases hi : i < ds.length
  · rw [List.getElem?_append_left (by simpa using hi), List.getElem?_map] at e
    cases q : ds[i]? with
    | none => rw [q] at e; cases e
    | some d' =>
      rw [q] at e
      cases e
      obtain ⟨v, h1, h2⟩ := RLs.get r i d q
      refine ⟨v, ?_, h2⟩
      unfold L2.start
      rw [List.getElem?_append_left (by simpa [hl] using hi), List.getElem?_map, h1] <;> rfl
  · rw [List.getElem?_append_right (by simpa using hi), List.getElem?_replicate] at e
    split at e <;> cases e
theorem room_units {k : Nat} {A : Around} (r : Room k A) : A.units + 64 < cLine := by have := r.un; omega
theorem roomH_units {k : Nat} {A : Around} (r : L2H.RoomH k A) : A.units + 64 < cLine := by have := r.un; omega
theorem gv_of {X : Cx} {g : Stat} {x : Str} {v : GV} (hP : X.prog = P) (hw : X.w = w) (hK : X.K = K) (hm : X.mg = mg) (hb : X.base = base) (hi : g.isi = isi) (hr : g.calm = true → Room k X.A) (hr2 : L2H.RoomH k X.A) (h : GvK P w K mg base k isi x v) : GvOk X g x v := by
  subst hP hw hK hm hb hi
  cases v with
  | fn F =>
    obtain ⟨f, fd, j, ps, h1, h2, h3, h4, h5⟩ := h
    exact fun hc => ⟨f, fd, k, ps, h1, h2, h3.mono h5, h4, hr hc⟩
  | fnx F =>
    obtain ⟨f, fd, j, ps, h1, h2, h3, h4, h5⟩ := h
    exact ⟨f, fd, j, ps, h1, h2, h3, h4, hr2.mono h5⟩
  | con d => exact h
  | exc => exact ⟨⟨h.1⟩, ⟨h.2⟩⟩
  | bex => exact ⟨h⟩
  | bi b => exact h
  | bt t => exact h
  | rng => exact h
section
variable {x qual : Str} {params : Arguments} {body : List Stmt} {scope : Scope} {f : Addr} {fd : FuncData} {N ps : List Str} {G : List (Str × GV)} {Fs : FS} {m n : Nat}
def finD (Q : KE) : En := ⟨fun _ S' => Weak (Q .non) S', fun d S' => Weak (Q d) S'⟩
def finX (E : XP) : XG := fun x _ S' => Weak (E x) S'
theorem def_ok (F : FunD K x qual params body scope [] [] f fd) (S : FnScope N ps scope) (gl : GsK P w K mg base k isi G) (sok : SubsOk K sub) (hlen : ∀ ds S Q E, Fs ds S Q E → ds.length = ps.length)
    (vc : ∀ ds S Q E, Fs ds S Q E → wS m n (gOf N scope G sub isi true) body (startG N ds) S (finD Q) (finX E)) : FnOk P w K mg base (L2N.CX P w) (k + 1) f fd ps (spOf K Fs) := by
  refine F.ok S (fun vs H Q E h => ?_) (fun cdv A outer s H vs Q E hr h => ?_)
  · obtain ⟨ds, S, Q', E', r, rs, hF, _⟩ := h
    rw [r.len]
    exact hlen ds S Q' E' hF
  · obtain ⟨ds, St, Q', E', r, rs, hF, hq, hx⟩ := h
    have c : Ctx (cxOf (L2N.CX P w) P w K mg base N qual scope f cdv A outer s H E) ⟨fun cls d _ H => E cls d H, []⟩ (gOf N scope G sub isi true) :=
      { N := rfl, nd := S.nd, sc := rfl, loc := fun x h => h, cel := fun x h => ⟨h, rfl⟩, calm := fun _ => rfl, hot := fun z => Bool.noConfusion z, pn := fun q h => (nomatch h),
        tk := L2N.takes_of (E := E) rfl rfl rfl rfl, glob := fun x v h => gv_of rfl rfl rfl rfl rfl rfl (fun _ => hr) (L2H.roomH_of hr) (gsK_at gl x v h), units := room_units hr, sub := sok, own := passes_of rfl, kind := S.kind, pn0 := fun _ => rfl, top := fun _ => ⟨rfl, rfl⟩ }
    refine ⟨_, wS_ok (m := m) n _ _ _ c body, ?_⟩
    refine ⟨startG N ds, St, _, _, rg_start (rl_of r), rs, vc ds St Q' E' hF, ?_, ?_, ?_⟩
    · intro Γ' S' σ' H' ⟨S0, h0, hQ⟩ k1 g1 r1
      exact hq _ _ _ _ hQ k1 .non (r1.sub h0)
    · intro d S' v H' ⟨S0, h0, hQ⟩ k1 rv r1
      exact hq _ _ _ _ hQ k1 rv (r1.sub h0)
    · intro x Γ' S' cls dd σ' H' ⟨S0, h0, hE⟩ k1 rx g1 r1
      exact hx _ _ _ _ _ hE k1 rx (r1.sub h0)
theorem defx_ok (F : FunD K x qual params body scope [] [] f fd) (S : FnScope N ps scope) (gl : GsK P w K mg base k isi G) (sok : SubsOk K sub) (hlen : ∀ ds S Q E, Fs ds S Q E → ds.length = ps.length)
    (vc : ∀ ds S Q E, Fs ds S Q E → wS m n (gOf N scope G sub isi false) body (startG N ds) S (finD Q) (finX E)) : FnX P w K mg base (k + 1) f fd ps (spX K Fs) := by
  obtain ⟨oc, od, dV, kV, doc, pm, an, cdv, ct, osl, rfl, lk, hcd, _, _⟩ := F.ex
  refine fnX_of lk hcd S (fun p vs H Q E h => ?_) (fun p A outer s H vs Q E hot hr h => ?_)
  · obtain ⟨ds, S, Q', E', r, rs, hF, _⟩ := h
    exact (Paired.length r).trans (hlen ds S Q' E' hF)
  · obtain ⟨ds, St, Q', E', r, rs, hF, hq, hx⟩ := h
    have c : Ctx (L2H.cxH (L2N.CX P w) P w K mg base N qual scope f cdv A outer s H E p) ⟨fun cls d _ H => E cls d H, [p]⟩ (gOf N scope G sub isi false) :=
      { N := rfl, nd := S.nd, sc := rfl, loc := fun x h => h, cel := fun x h => ⟨h, rfl⟩, calm := fun z => Bool.noConfusion z, hot := fun _ => ⟨p, rfl, hot, List.mem_cons_self⟩, pn := fun q h => h,
        tk := L2N.takes_of (E := E) rfl rfl rfl rfl, glob := fun x v h => gv_of rfl rfl rfl rfl rfl rfl (fun z => Bool.noConfusion z) hr (gsK_at gl x v h), units := roomH_units hr, sub := sok, own := passes_of rfl, kind := S.kind, pn0 := fun z => Bool.noConfusion z, top := fun _ => ⟨rfl, rfl⟩ }
    refine ⟨_, wS_ok (m := m) n _ _ _ c body, ?_⟩
    refine ⟨startG N ds, St, _, _, rg_start r, rs, vc ds St Q' E' hF, ?_, ?_, ?_⟩
    · intro Γ' S' σ' H' ⟨S0, h0, hQ⟩ k1 g1 r1
      exact hq _ _ _ _ hQ k1 .non (r1.sub h0)
    · intro d S' v H' ⟨S0, h0, hQ⟩ k1 rv r1
      exact hq _ _ _ _ hQ k1 rv (r1.sub h0)
    · intro x Γ' S' cls dd σ' H' ⟨S0, h0, hE⟩ k1 rx g1 r1
      exact hx _ _ _ _ _ hE k1 rx (r1.sub h0)
/-- a def's object, at its name -/
theorem fnK_of (hm : mg x = some (.ref f)) (F : FunD K x qual params body scope [] [] f fd) (ok : FnOk P w K mg base (L2N.CX P w) (k + 1) f fd ps (spOf K Fs))
    (hb : ∀ (kV doc pm : Value) (an : Option Addr) (cdv ct : Value) (us : List Value), us.length = ps.length → bindArgs (PySem.W.fnOf x qual params body scope .none kV doc pm an cdv ct) ⟨us, []⟩ = pure (ps.zip us)) : FnK P w K mg base (k + 1) x Fs :=
  ⟨f, fd, k + 1, ps, hm, F.kp, ok, F.bindsN hb, Nat.le_refl _⟩
theorem fnKX_of (hm : mg x = some (.ref f)) (F : FunD K x qual params body scope [] [] f fd) (ok : FnX P w K mg base (k + 1) f fd ps (spX K Fs))
    (hb : ∀ (kV doc pm : Value) (an : Option Addr) (cdv ct : Value) (us : List Value), us.length = ps.length → bindArgs (PySem.W.fnOf x qual params body scope .none kV doc pm an cdv ct) ⟨us, []⟩ = pure (ps.zip us)) : FnKX P w K mg base (k + 1) x Fs :=
  ⟨f, fd, k + 1, ps, hm, F.kp, ok, F.bindsN hb, Nat.le_refl _⟩
end
theorem FnK.mono {j : Nat} {x : Str} {F : FS} (h : FnK P w K mg base j x F) (l : j ≤ k) : FnK P w K mg base k x F := by
  obtain ⟨f, fd, i, ps, h1, h2, h3, h4, h5⟩ := h
  exact ⟨f, fd, i, ps, h1, h2, h3, h4, Nat.le_trans h5 l⟩
theorem FnKX.mono {j : Nat} {x : Str} {F : FS} (h : FnKX P w K mg base j x F) (l : j ≤ k) : FnKX P w K mg base k x F := by
  obtain ⟨f, fd, i, ps, h1, h2, h3, h4, h5⟩ := h
  exact ⟨f, fd, i, ps, h1, h2, h3, h4, Nat.le_trans h5 l⟩
end Vm
/-! VmN: what is asked of the module at the law's call; the law's end. -/
namespace Vm
open PySem PySem.Spec PyProof.Rows L2
/-! ### a part of the heap without lists -/
def isLstO (o : Obj) : Bool := match o.cls with
  | .type c => decide (c = "list")
  | _ => false
def frV (g : Addr → Option Obj) (as : List Addr) : PySem.W.Frag := (He.frG g as).filter fun p => !isLstO p.2
theorem lookup_mem {α β : Type} [BEq α] [LawfulBEq α] {a : α} {b : β} : ∀ {l : List (α × β)}, l.lookup a = some b → (a, b) ∈ l
  | [], h => by cases h
  | (c, d) :: r, h => by
    rw [List.lookup_cons] at h
    split at h
    · rename_i q
      cases h
      rw [beq_iff_eq.mp q]
      exact List.mem_cons_self
    · exact List.mem_cons_of_mem _ (lookup_mem h)
theorem frV_in {as : List Addr} {h : Heap} : (frV h.get? as).In h := fun a o e => by
  have m := (List.mem_filter.mp (lookup_mem e)).1
  unfold He.frG at m
  obtain ⟨b, _, q⟩ := List.mem_filterMap.mp m
  cases z : h.get? b with
  | none => rw [z] at q; cases q
  | some o' =>
    rw [z] at q
    cases q
    exact z
def NoLst (K : PySem.W.Frag) : Prop := ∀ a o, K.lookup a = some o → o.cls ≠ .type "list"
theorem frV_no {g : Addr → Option Obj} {as : List Addr} : NoLst (frV g as) := fun a o e c => by
  have m := (List.mem_filter.mp (lookup_mem e)).2
  have q : isLstO o = true := by unfold isLstO; rw [c]; rfl
  rw [show (!isLstO (a, o).2) = !isLstO o from rfl, q] at m
  cases m
/-! ### the Hook -/
abbrev AlV : Type := He.AlD × Bool
def obsV (n : Nat) (fa : List He.Fa) (fn : List He.DefD) (ex : PySem.W.Frag → Bool) (g : Addr → Option Obj) : AlV := (He.obsD fa fn (frV g (He.asD g n)), ex (frV g (He.asD g n)))
structure SaysV (fa : List He.Fa) (fn : List He.DefD) (ex : PySem.W.Frag → Bool) (K : PySem.W.Frag) : Prop where
  d : He.SaysD fa fn K
  x : ex K = true
  no : NoLst K
def hookV (n : Nat) (fa : List He.Fa) (fn : List He.DefD) (ex : PySem.W.Frag → Bool) : PySem.W.Hook where
  α := AlV
  obs := fun s => obsV n fa fn ex s.heap.get?
  val := fun _ => (He.valD fn, true)
  says := fun _ h => ∃ K : PySem.W.Frag, K.In h ∧ SaysV fa fn ex K
  of := fun _ _ e => ⟨_, frV_in, congrArg (fun z : AlV => z.1) e, congrArg (fun z : AlV => z.2) e, frV_no⟩
  keeps := fun _ _ _ ⟨K, hK, c⟩ k => ⟨K, PySem.W.Frag.In.keeps hK k, c⟩
theorem obsV_eq {n : Nat} {fa : List He.Fa} {fn : List He.DefD} {ex : PySem.W.Frag → Bool} {g : Addr → Option Obj} {s : Shared} (h : ∀ a, g a = s.heap.get? a) : obsV n fa fn ex g = (hookV n fa fn ex).obs s := by
  have e : g = s.heap.get? := funext h
  rw [e] <;> rfl
/-! ### facts by names -/
def excIsB (K : PySem.W.Frag) (C : Addr) : Bool := (PySem.W.clsIn K C).isSome && (He.eqO (PySem.W.findIn K (.ref C) "__getattribute__") (some (some (.builtin "BaseException.__getattribute__"))) && ((PySem.W.findIn K (.ref C) "__getattr__").isSome &&
  (decide (PySem.W.subIn K (.ref C) (.type "BaseException") = some true) && (He.eqO (PySem.W.findIn K (.ref C) "__class__") (some (some (.builtin "object.__class__"))) && (He.eqO (PySem.W.specialIn K (.builtin "object.__class__") "__get__") (some (some (.builtin "getset_descriptor.__get__"))) &&
  (decide (PySem.W.takesIn K (.builtin "object.__class__") = some true) && decide (PySem.W.mroIn K C (.type "object") = some true)))))))
theorem excIsB_ok {K : PySem.W.Frag} {C : Addr} (h : excIsB K C = true) : isiFacts K C := by
  obtain ⟨h1, h⟩ := He.ba h
  obtain ⟨h2, h⟩ := He.ba h
  obtain ⟨h3, h⟩ := He.ba h
  obtain ⟨h4, h⟩ := He.ba h
  obtain ⟨h5, h⟩ := He.ba h
  obtain ⟨h6, h⟩ := He.ba h
  obtain ⟨h7, h8⟩ := He.ba h
  exact ⟨h1, He.eqO_ok h2, Option.isSome_iff_exists.mp h3, of_decide_eq_true h4, He.eqO_ok h5, He.eqO_ok h6, of_decide_eq_true h7, of_decide_eq_true h8⟩
def isiTb (K : PySem.W.Frag) (tb : Subs) (y : Str) (u : Value) : Bool := tb.all fun p => if p.1.2 = y then excIsB K (He.ga K p.1.1) && decide (PySem.W.kitOne K (.ref (He.ga K p.1.1)) u = some p.2) else true
def subB (K : PySem.W.Frag) (sb : Subs) : Bool := sb.all fun p => decide (PySem.W.exmOne K (.ref (He.ga K p.1.1)) (.ref (He.ga K p.1.2)) = some p.2)
theorem ga_of {K : PySem.W.Frag} {x : Str} {C : Addr} (h : PySem.W.nsIn K mainGlobals x = some (some (.ref C))) : He.ga K x = C := by
  unfold He.ga
  rw [h]
theorem subB_ok {K : PySem.W.Frag} {sb : Subs} (h : subB K sb = true) : SubsOk K sb := fun x y b e C C' h1 h2 => by
  have q := of_decide_eq_true (List.all_eq_true.mp h _ (lookup_mem e))
  rw [ga_of h1, ga_of h2] at q
  exact q
theorem isiTb_ok {K : PySem.W.Frag} {tb : Subs} {y : Str} {u : Value} (h : isiTb K tb y u = true) {x : Str} {b : Bool} {C : Addr} (e : tb.lookup (x, y) = some b) (h1 : PySem.W.nsIn K mainGlobals x = some (some (.ref C))) : isiFacts K C ∧ PySem.W.kitOne K (.ref C) u = some b := by
  have q := List.all_eq_true.mp h _ (lookup_mem e)
  rw [if_pos rfl] at q
  obtain ⟨q1, q2⟩ := He.ba q
  have q2 := of_decide_eq_true q2
  rw [ga_of h1] at q1 q2
  exact ⟨excIsB_ok q1, q2⟩
/-- a value of the module's, as data -/
def conB (K : PySem.W.Frag) : Nat → Value → D → Bool
  | 0, _, _ => false
  | n + 1, u, d => match u, d with
    | .none, .non => true
    | .bool b, .bl c => b == c
    | .int i _, .int j => decide (i = j)
    | .str x _, .str y => decide (x = y)
    | .ref a, .tup ds => (match K.lookup a with
      | some ⟨.type c, _, .seq its _, _⟩ => decide (c = "tuple") && (decide (its.size ≤ sizeLine) && conBs (conB K n) its.toList ds)
      | _ => false)
    | _, _ => false
where
  conBs (f : Value → D → Bool) : List Value → List D → Bool
    | [], [] => true
    | u :: us, d :: ds => f u d && conBs f us ds
    | _, _ => false
theorem conBs_ok {K : PySem.W.Frag} {f : Value → D → Bool} (hf : ∀ u d, f u d = true → ∃ v, RelV v u ∧ ∀ H, RV K H v d) : ∀ us ds, conB.conBs f us ds = true → ∃ vs, Vals vs us ∧ ∀ H, RVs K H vs ds
  | [], [], _ => ⟨[], .nil, fun _ => .nil⟩
  | u :: us, d :: ds, h => by
    obtain ⟨h1, h2⟩ := He.ba (show (f u d && conB.conBs f us ds) = true from h)
    obtain ⟨v, r, k⟩ := hf u d h1
    obtain ⟨vs, rs, ks⟩ := conBs_ok hf us ds h2
    exact ⟨v :: vs, .cons r rs, fun H => .cons (k H) (ks H)⟩
theorem conB_ok {K : PySem.W.Frag} : ∀ (n : Nat) (u : Value) (d : D), conB K n u d = true → ∃ v, RelV v u ∧ ∀ H, RV K H v d
  | 0, _, _, h => by cases h
  | n + 1, u, d, h => by
    unfold conB at h
    split at h
    · exact ⟨.non, rfl, fun _ => .non⟩
    · rename_i b c
      rw [beq_iff_eq.mp h]
      exact ⟨.bl c, rfl, fun _ => .bl⟩
    · rename_i i t j
      rw [of_decide_eq_true h]
      exact ⟨.int j, ⟨t, rfl⟩, fun _ => .int⟩
    · rename_i i t j
      rw [of_decide_eq_true h]
      exact ⟨.str j, ⟨t, rfl⟩, fun _ => .str⟩
    · rename_i a ds
      split at h
      · rename_i c od its m sl q
        obtain ⟨h1, h2⟩ := He.ba h
        obtain ⟨h3, h4⟩ := He.ba h2
        obtain ⟨vs, r, k⟩ := conBs_ok (conB_ok n) _ _ h4
        exact ⟨.ref a, rfl, fun H => .tup (.inr ⟨_, its, m, q, congrArg Value.type (of_decide_eq_true h1), rfl, of_decide_eq_true h3, r⟩) (k H)⟩
      · cases h
    · cases h
def conF (K : PySem.W.Frag) (x : Str) (d : D) : Bool := match PySem.W.nsIn K mainGlobals x with
  | some (some u) => conB K 4 u d
  | _ => false
section
variable {P : Program} {w : World} {K : PySem.W.Frag} {mg : Str → Option Value} {base h : Heap} {k : Nat} {isi sub : Subs}
theorem gv_con {x : Str} {d : D} (X : K.In h) (G : h.Ns mainGlobals mg) (c : conF K x d = true) : GvK P w K mg base k isi x (.con d) := by
  unfold conF at c
  split at c
  · rename_i u e
    obtain ⟨v, r, q⟩ := conB_ok 4 u d c
    exact ⟨v, u, PySem.W.mg_of X G e, r, q⟩
  · cases c
theorem gv_exc {x : Str} (X : K.In h) (G : h.Ns mainGlobals mg) (c : (He.Fa.glo x).ok K = true) (e : (He.Fa.exc x).ok K = true) (t : isiTb K isi x (.ref (He.ga K x)) = true) : GvK P w K mg base k isi x .exc := by
  obtain ⟨e1, e2, e3, e4⟩ := He.exc_ok e
  have m := He.glo_ok X G c
  exact ⟨⟨_, m, He.eqO_ok c, e2, e1, e3, e4⟩, ⟨.ref (He.ga K x), .ref (He.ga K x), .own _, rfl, .inl m, fun y b C h1 h2 => isiTb_ok t h1 h2⟩⟩
theorem gv_bex {n : String} (X : K.In h) (G : h.Ns mainGlobals mg) (c : (He.Fa.free (Str.ofString n)).ok K = true) (hb : bootBuiltins (Str.ofString n) = some (.type n)) (hn : Str.ofString n ≠ "__name__") (t : isiTb K isi (Str.ofString n) (.type n) = true) : GvK P w K mg base k isi (Str.ofString n) .bex :=
  ⟨.ty n, .type n, .ty n, rfl, .inr ⟨He.free_ok X G c, hb, hn⟩, fun y b C h1 h2 => isiTb_ok t h1 h2⟩
theorem gv_bi {b : Bk} (X : K.In h) (G : h.Ns mainGlobals mg) (c : (He.Fa.free b.name).ok K = true) : GvK P w K mg base k isi b.name (.bi b) := ⟨He.free_ok X G c, rfl⟩
theorem gv_bt {t : Bt} (X : K.In h) (G : h.Ns mainGlobals mg) (c : (He.Fa.free (Str.ofString t.name)).ok K = true) : GvK P w K mg base k isi (Str.ofString t.name) (.bt t) := ⟨He.free_ok X G c, rfl⟩
theorem gv_rng (X : K.In h) (G : h.Ns mainGlobals mg) (c : (He.Fa.free "range").ok K = true) : GvK P w K mg base k isi "range" .rng := ⟨He.free_ok X G c, rfl⟩
end
/-- the law's promise: the script is a list of at most n ints, the answer is True -/
def lawF (n : Nat) : FS := fun ds S Q E => ∃ (a : Addr) (ns : List Int), ns.length ≤ n ∧ ds = [.ref a] ∧ S a = some (.scr (ns.map D.int)) ∧ (∀ b, b ≠ a → S b = none) ∧ Q = (fun d _ => d = .bl true) ∧ E = fun _ _ => False
theorem rvs_ints {K : PySem.W.Frag} {H : Hp} : ∀ ns : List Int, RVs K H (ns.map V.int) (ns.map D.int)
  | [] => .nil
  | n :: ns => .cons .int (rvs_ints ns)
theorem law_sp {K : PySem.W.Frag} (no : NoLst K) {n : Nat} {H : Hp} {a : Addr} {ns : List Int} (hl : ns.length ≤ n) (hO : Only H) (hS : SqL K H a (ns.map V.int)) : spOf K (lawF n) [.ref a] H (fun v _ => v = .bl true) fun _ _ _ => False := by
  have key : ∃ o, H a = some (.frz o (.lst (ns.map V.int))) := by
    rcases hS with (h | h) | ⟨o, its, m, h1, h2, _⟩
    · rcases hO a with z | ⟨o, xs, z⟩
      · rw [h] at z; cases z
      · rw [h] at z; cases z
    · exact h
    · exact absurd h2 (no a o h1)
  obtain ⟨o, ho⟩ := key
  refine ⟨[.ref a], put (fun _ => none) a (.scr (ns.map D.int)), fun d _ => d = .bl true, fun _ _ => False, .cons .ref .nil, ?_, ⟨a, ns, hl, rfl, put_same, fun b hb => put_ne hb, rfl, rfl⟩, ?_, fun _ _ _ _ _ z => z.elim⟩
  · intro b m e
    by_cases hb : b = a
    · subst hb
      rw [put_same] at e
      cases e
      exact ⟨o, _, ho, rvs_ints ns⟩
    · rw [put_ne hb] at e
      cases e
  · intro d S' v H' e _ rv _
    subst e
    cases rv
    rfl
theorem cx_no {P : Program} {w : World} {H : Hp} {s : Shared} {e : Value} {s' : Shared} : L2N.CX P w [] H s (fun _ _ _ => False) e s' → False := fun ⟨_, _, _, _, _, _, _, _, _, _, _, _, z⟩ => z
/-- the law's end -/
theorem law_end {l : PySem.W.OpenLaw} {n k : Nat} {q : Program} {loose : List Str} {XP : (Str → Option Value) → Heap → Prop} {fa : List He.Fa} {fn : List He.DefD} {ex : PySem.W.Frag → Bool} {d : DefRec} {x : Str} {hd : Nat}
    (hn : l.most = some n) (hn2 : n ≤ sizeLine) (hdf : d.params.defaults = []) (hr : Room (k + 1) callerA)
    (F : ∀ (w : World) (K : PySem.W.Frag) (mg : Str → Option Value) (f : Addr) (h : Heap), K.In h → h.Ns mainGlobals mg → mg d.name = some (.ref f) → SaysV fa fn ex K →
      ∃ fd : FuncData, (∀ (s : Shared) (u : Value), BindsTo s fd ⟨[u], []⟩ [(x, u)]) ∧ ∀ base : Heap, K.In base → base.Ns mainGlobals mg → FnOk l.prog w K mg base (L2N.CX l.prog w) (k + 1) f fd [x] (spOf K (lawF n))) :
    PySem.W.WalkO q loose XP (hookV hd fa fn ex).says l.row.toRowW d [] (fun f vs => PySem.call f vs) := by
  have base := fun (w : World) => @walk_ofE l n (k + 1) q loose XP (hookV hd fa fn ex).says d (L2N.CX l.prog w) x hn hn2 hdf hr
  refine Att.attach_call hn hdf fun w s₀ s₁ mg mb fa o pm cd doc a vs ns G Y ho hd hcd hmg hobj hints hlen hg => ?_
  obtain ⟨K, KX, c⟩ := Y
  obtain ⟨fd, hb, hF⟩ := F w K mg fa _ KX G.T.g hmg c
  exact law_call KX G.T.g G.T.b G.T.builtins G.T.nolimit hg hobj hints (Nat.le_trans hlen hn2) hr hF hb (fun H hO hS => law_sp c.no hlen hO hS) fun H e s' => cx_no
end Vm
/-! VmO: what is done with wishes: the plain side. -/
namespace Vm
open PySem PySem.Spec PyProof.Rows L2
/-- what a slot holds, but for an exception -/
def getS (o : Option (Option D)) (Q : KE) (S : Sto) : Prop := match o with | some (some (.exn _ _)) => False | some (some d) => Q d S | _ => False
def notX : D → Bool
  | .exn _ _ => false
  | _ => true
theorem getS_ok {d : D} {Q : KE} {S : Sto} (h : notX d = true) : getS (some (some d)) Q S = Q d S := by
  cases d <;> first | rfl | cases h
section
variable {Γ : Gam} {S : Sto} {Q : KE} {E : XP} {D : En} {X : XG} {m m1 m2 m3 : WE} {k k' : Vm.D → Vm.D → Sto → KE → Prop} {i j : Int} {x y z d : Vm.D} {a : Addr}
@[simp] theorem u_seq0 : seqW [] Γ S D X = D.nx Γ S := propext Iff.rfl
@[simp] theorem u_seq1 {s : WS} : seqW [s] Γ S D X = s Γ S ⟨fun Γ' S' => D.nx Γ' S', D.rt⟩ X := propext Iff.rfl
@[simp] theorem u_seq2 {s t : WS} {r : List WS} : seqW (s :: t :: r) Γ S D X = s Γ S ⟨fun Γ' S' => seqW (t :: r) Γ' S' D X, D.rt⟩ X := propext Iff.rfl
@[simp] theorem u_pass : passS Γ S D X = D.nx Γ S := propext Iff.rfl
@[simp] theorem u_expr : exprS m Γ S D X = m Γ S (fun _ S1 => D.nx Γ S1) (fun x S' => X x Γ S') := propext Iff.rfl
@[simp] theorem u_ret : retS m Γ S D X = m Γ S D.rt (fun x S' => X x Γ S') := propext Iff.rfl
@[simp] theorem u_retN : retN Γ S D X = D.rt .non S := propext Iff.rfl
@[simp] theorem u_if {c : WT} {p q : WS} : ifS c p q Γ S D X = c Γ S (fun t S1 => if t = true then p Γ S1 D X else q Γ S1 D X) (fun x S' => X x Γ S') := propext Iff.rfl
@[simp] theorem u_asg {t : WG} : asgS m t Γ S D X = m Γ S (fun d S1 => t d Γ S1 D.nx X) (fun x S' => X x Γ S') := propext Iff.rfl
@[simp] theorem u_nm {n : Nat} {Q : Gam → Sto → Prop} : nmW (.nm n) d Γ S Q X = Q (Γ.set n (some d)) S := propext Iff.rfl
theorem u_tp {ts : List Tg} {Q : Gam → Sto → Prop} : nmW (.tp ts) d Γ S Q X = (match tgU S (.tp ts) d with | some ups => Q (setU Γ ups) S | none => False) := rfl
@[simp] theorem u_tp2 {n1 n2 : Nat} {Q : Gam → Sto → Prop} : nmW (.tp [.nm n1, .nm n2]) (.tup [x, y]) Γ S Q X = Q ((Γ.set n1 (some x)).set n2 (some y)) S := propext Iff.rfl
@[simp] theorem u_tp3 {n1 n2 n3 : Nat} {Q : Gam → Sto → Prop} : nmW (.tp [.nm n1, .nm n2, .nm n3]) (.tup [x, y, z]) Γ S Q X = Q (((Γ.set n1 (some x)).set n2 (some y)).set n3 (some z)) S := propext Iff.rfl
@[simp] theorem u_sub {o p : WE} {Q : Gam → Sto → Prop} : subG o p d Γ S Q X = o Γ S (fun o S1 => p Γ S1 (fun i S2 => setW o i d S2 (fun S3 => Q Γ S3)) (fun x S' => X x Γ S')) (fun x S' => X x Γ S') := propext Iff.rfl
@[simp] theorem u_setW {Q : Sto → Prop} : setW (.ref a) (.int i) d S Q = onL S a fun xs => (match ixN xs.length i with | some j => Q (put S a (.lst (xs.set j d))) | none => False) := propext Iff.rfl
@[simp] theorem u_raise {c : Str} : raiseS c Γ S D X = X ⟨c, []⟩ Γ S := propext Iff.rfl
@[simp] theorem u_val : valW d Γ S Q E = Q d S := propext Iff.rfl
@[simp] theorem u_two : two m1 m2 k Γ S Q E = m1 Γ S (fun x S1 => m2 Γ S1 (fun y S2 => k x y S2 Q) E) E := propext Iff.rfl
@[simp] theorem u_one {k : Vm.D → Sto → KE → Prop} : oneW m k Γ S Q E = m Γ S (fun x S1 => k x S1 Q) E := propext Iff.rfl
@[simp] theorem u_args0 {Q : List Vm.D → Sto → Prop} : argsW [] Γ S Q E = Q [] S := propext Iff.rfl
@[simp] theorem u_args1 {ms : List WE} {Q : List Vm.D → Sto → Prop} : argsW (m :: ms) Γ S Q E = m Γ S (fun d S1 => argsW ms Γ S1 (fun ds S2 => Q (d :: ds) S2) E) E := propext Iff.rfl
@[simp] theorem u_call {F : FS} {ms : List WE} : callW F ms Γ S Q E = argsW ms Γ S (fun ds S1 => F ds S1 Q E) E := propext Iff.rfl
@[simp] theorem u_blt {k : List Vm.D → Sto → KE → Prop} {ms : List WE} : bltW k ms Γ S Q E = argsW ms Γ S (fun ds S1 => k ds S1 Q) E := propext Iff.rfl
@[simp] theorem u_tup {ms : List WE} : tupW ms Γ S Q E = argsW ms Γ S (fun ds S1 => Q (.tup ds) S1) E := propext Iff.rfl
@[simp] theorem u_lst {ms : List WE} : lstW ms Γ S Q E = argsW ms Γ S (fun ds S1 => ∀ p, S1 p = none → Q (.ref p) (put S1 p (.lst ds))) E := propext Iff.rfl
@[simp] theorem u_tst {Q : Bool → Sto → Prop} : tst m Γ S Q E = m Γ S (asB Q) E := propext Iff.rfl
@[simp] theorem u_asB {b : Bool} {Q : Bool → Sto → Prop} : asB Q (.bl b) S = Q b S := propext Iff.rfl
@[simp] theorem u_notT {c : WT} {Q : Bool → Sto → Prop} : notT c Γ S Q E = c Γ S (fun b S1 => Q (!b) S1) E := propext Iff.rfl
@[simp] theorem u_andT1 {c : WT} {Q : Bool → Sto → Prop} : andT [c] Γ S Q E = c Γ S Q E := propext Iff.rfl
@[simp] theorem u_andT2 {c c2 : WT} {cs : List WT} {Q : Bool → Sto → Prop} : andT (c :: c2 :: cs) Γ S Q E = c Γ S (fun b S1 => if b = true then andT (c2 :: cs) Γ S1 Q E else Q false S1) E := propext Iff.rfl
@[simp] theorem u_orT1 {c : WT} {Q : Bool → Sto → Prop} : orT [c] Γ S Q E = c Γ S Q E := propext Iff.rfl
@[simp] theorem u_orT2 {c c2 : WT} {cs : List WT} {Q : Bool → Sto → Prop} : orT (c :: c2 :: cs) Γ S Q E = c Γ S (fun b S1 => if b = true then Q true S1 else orT (c2 :: cs) Γ S1 Q E) E := propext Iff.rfl
@[simp] theorem u_andV1 : andV [m] Γ S Q E = m Γ S Q E := propext Iff.rfl
@[simp] theorem u_andV2 {ms : List WE} : andV (m :: m2 :: ms) Γ S Q E = m Γ S (asB fun b S1 => if b = true then andV (m2 :: ms) Γ S1 Q E else Q (.bl false) S1) E := propext Iff.rfl
@[simp] theorem u_orV1 : orV [m] Γ S Q E = m Γ S Q E := propext Iff.rfl
@[simp] theorem u_orV2 {ms : List WE} : orV (m :: m2 :: ms) Γ S Q E = m Γ S (asB fun b S1 => if b = true then Q (.bl true) S1 else orV (m2 :: ms) Γ S1 Q E) E := propext Iff.rfl
@[simp] theorem u_ifW {c : WT} : ifW c m m2 Γ S Q E = c Γ S (fun t S1 => if t = true then m Γ S1 Q E else m2 Γ S1 Q E) E := propext Iff.rfl
@[simp] theorem u_chain : chainW m1 m2 m3 k k' Γ S Q E = m1 Γ S (fun x S1 => m2 Γ S1 (fun y S2 => k x y S2 (asB fun b S3 => if b = true then m3 Γ S3 (fun z S4 => k' y z S4 Q) E else Q (.bl false) S3)) E) E := propext Iff.rfl
@[simp] theorem u_not {b : Bool} : notW (.bl b) S Q = Q (.bl (!b)) S := propext Iff.rfl
@[simp] theorem u_neg : negW (.int i) S Q = Q (.int (-i)) S := propext Iff.rfl
@[simp] theorem u_lm {k : Vm.D → List Vm.D → Sto → KE → Prop} {ms : List WE} : lmW k m ms Γ S Q E = m Γ S (fun x S1 => isL x S1 ∧ argsW ms Γ S1 (fun ds S2 => k x ds S2 Q) E) E := propext Iff.rfl
@[simp] theorem u_add : addW (.int i) (.int j) S Q = Q (.int (i + j)) S := propext Iff.rfl
@[simp] theorem u_subI : subW (.int i) (.int j) S Q = Q (.int (i - j)) S := propext Iff.rfl
@[simp] theorem u_mul : mulW (.int i) (.int j) S Q = (MulOk i j ∧ Q (.int (i * j)) S) := propext Iff.rfl
@[simp] theorem u_fdiv : fdivW (.int i) (.int j) S Q = (DivOk i j ∧ Q (.int (i.fdiv j)) S) := propext Iff.rfl
@[simp] theorem u_mod : modW (.int i) (.int j) S Q = (j ≠ 0 ∧ Q (.int (i.fmod j)) S) := propext Iff.rfl
@[simp] theorem u_pow : powW (.int i) (.int j) S Q = (CPow i j ∧ Q (.int (i ^ j.toNat)) S) := propext Iff.rfl
@[simp] theorem u_lt : ltW (.int i) (.int j) S Q = Q (.bl (decide (i < j))) S := propext Iff.rfl
@[simp] theorem u_le : leW (.int i) (.int j) S Q = Q (.bl (decide (i ≤ j))) S := propext Iff.rfl
@[simp] theorem u_gt : gtW (.int i) (.int j) S Q = Q (.bl (decide (j < i))) S := propext Iff.rfl
@[simp] theorem u_ge : geW (.int i) (.int j) S Q = Q (.bl (decide (j ≤ i))) S := propext Iff.rfl
@[simp] theorem u_eqI {n : Bool} : eqW n (.int i) (.int j) S Q = Q (.bl (n ^^ decide (i = j))) S := propext Iff.rfl
@[simp] theorem u_eqS {n : Bool} {s t : Str} : eqW n (.str s) (.str t) S Q = Q (.bl (n ^^ decide (s = t))) S := propext Iff.rfl
@[simp] theorem u_eqB {n b c : Bool} : eqW n (.bl b) (.bl c) S Q = Q (.bl (n ^^ decide (b = c))) S := propext Iff.rfl
@[simp] theorem u_abs : absW [.int i] S Q = Q (.int (i.natAbs : Int)) S := propext Iff.rfl
@[simp] theorem u_intC : intCW [.int i] S Q = Q (.int i) S := propext Iff.rfl
@[simp] theorem u_max : maxW [.int i, .int j] S Q = Q (.int (max i j)) S := propext Iff.rfl
@[simp] theorem u_min : minW [.int i, .int j] S Q = Q (.int (min i j)) S := propext Iff.rfl
@[simp] theorem u_ixT {xs : List Vm.D} : ixW (.tup xs) (.int i) S Q = (match atI xs i with | some d => Q d S | none => False) := propext Iff.rfl
@[simp] theorem u_ixR : ixW (.ref a) (.int i) S Q = onR S a fun xs => (match atI xs i with | some d => Q d S | none => False) := propext Iff.rfl
@[simp] theorem u_lenT {xs : List Vm.D} : lenW [.tup xs] S Q = Q (.int xs.length) S := propext Iff.rfl
@[simp] theorem u_lenS {z : Str} : lenW [.str z] S Q = (z.length ≤ sizeLine ∧ Q (.int z.length) S) := propext Iff.rfl
theorem u_lenR (h : S a = some (.lst xs) ∨ S a = some (.scr xs)) : lenW [.ref a] S Q = Q (.int xs.length) S := by
  unfold lenW
  rcases h with h | h <;> simp only [h]
@[simp] theorem u_isi {t : Bt} : isiW [x, .ty t] S Q = (match isiB S t x with | some b => Q (.bl b) S | none => False) := propext Iff.rfl
@[simp] theorem u_isiI {t : Bt} : isiB S t (.int i) = some (match t with | .int => true | _ => false) := rfl
@[simp] theorem u_isiB {t : Bt} {b : Bool} : isiB S t (.bl b) = some (match t with | .int => true | .bool => true | _ => false) := rfl
@[simp] theorem u_isiS {t : Bt} {b : Str} : isiB S t (.str b) = some (match t with | .str => true | _ => false) := rfl
@[simp] theorem u_isiT {t : Bt} {b : List Vm.D} : isiB S t (.tup b) = some (match t with | .tuple => true | _ => false) := rfl
@[simp] theorem u_isiN {t : Bt} : isiB S t .non = some false := rfl
@[simp] theorem u_sl {lo hi : Option WE} : slW m (partW lo) (partW hi) Γ S Q E = m Γ S (fun x S1 => partW lo Γ S1 (fun lo S2 => partW hi Γ S2 (fun hi S3 => sliceW x lo hi S3 Q) E) E) E := propext Iff.rfl
@[simp] theorem u_part0 {Q : Option Int → Sto → Prop} : partW none Γ S Q E = Q none S := propext Iff.rfl
@[simp] theorem u_part1 {Q : Option Int → Sto → Prop} : partW (some m) Γ S Q E = m Γ S (fun d S1 => match d with | .int i => Q (some i) S1 | _ => False) E := propext Iff.rfl
@[simp] theorem u_slT {xs : List Vm.D} {lo hi : Option Int} : sliceW (.tup xs) lo hi S Q = Q (.tup (cutD xs lo hi)) S := propext Iff.rfl
@[simp] theorem u_slR {lo hi : Option Int} : sliceW (.ref a) lo hi S Q = onR S a fun xs => ∀ p, S p = none → Q (.ref p) (put S p (.lst (cutD xs lo hi))) := propext Iff.rfl
@[simp] theorem u_rng {ms : List WE} {Q : List Vm.D → (Sto → Prop) → Sto → Prop} : rngW ms Γ S Q E = argsW ms Γ S (fun ds S1 => match ds with
  | [.int j] => (-(2 ^ 62) ≤ j ∧ j < 2 ^ 62) ∧ Q (intsD 0 j.toNat) (fun _ => True) S1
  | [.int i, .int j] => (-(2 ^ 62) ≤ i ∧ i < 2 ^ 62 ∧ -(2 ^ 62) ≤ j ∧ j < 2 ^ 62) ∧ Q (intsD i (j - i).toNat) (fun _ => True) S1
  | _ => False) E := propext Iff.rfl
@[simp] theorem u_it {Q : List Vm.D → (Sto → Prop) → Sto → Prop} : itW m Γ S Q E = m Γ S (fun d S1 => match d with
  | .tup ds => Q ds (fun _ => True) S1
  | .ref a => onR S1 a fun ds => Q ds (fun S => S a = some (.lst ds) ∨ S a = some (.scr ds)) S1
  | _ => False) E := propext Iff.rfl
@[simp] theorem u_for {mi : WI} {t : Tg} {b : WS} : forS mi t b Γ S D X = mi Γ S (fun ds ok S1 => forW (bodyW t b D.rt X) ok D.nx ds Γ S1) (fun x S' => X x Γ S') := propext Iff.rfl
@[simp] theorem u_setU0 : setU Γ [] = Γ := rfl
@[simp] theorem u_setU1 {p : Nat × Vm.D} {r : List (Nat × Vm.D)} : setU Γ (p :: r) = setU (Γ.set p.1 (some p.2)) r := rfl
@[simp] theorem u_body {n : Nat} {b : WS} {K : Gam → Sto → Prop} : bodyW (.nm n) b Q X d Γ S K = b (Γ.set n (some d)) S ⟨K, Q⟩ X := propext Iff.rfl
@[simp] theorem u_body2 {n1 n2 : Nat} {b : WS} {K : Gam → Sto → Prop} : bodyW (.tp [.nm n1, .nm n2]) b Q X (.tup [x, y]) Γ S K = b ((Γ.set n1 (some x)).set n2 (some y)) S ⟨K, Q⟩ X := propext Iff.rfl
@[simp] theorem u_body3 {n1 n2 n3 : Nat} {b : WS} {K : Gam → Sto → Prop} : bodyW (.tp [.nm n1, .nm n2, .nm n3]) b Q X (.tup [x, y, z]) Γ S K = b (((Γ.set n1 (some x)).set n2 (some y)).set n3 (some z)) S ⟨K, Q⟩ X := propext Iff.rfl
@[simp] theorem u_lc {mi : WI} {t : Tg} {own : List Nat} {c : WT} : lcW mi t own c m Γ S Q E = mi Γ S (fun ds ok S1 => ∀ p, S1 p = none → compW t (clean (wipeG Γ own)) c m ok p (fun S => Q (.ref p) S) ds (put S1 p (.lst []))) E := propext Iff.rfl
@[simp] theorem u_put {o : MO} : put S a o a = some o := put_same
@[simp] theorem u_putput {o u : MO} : put (put S a o) a u = put S a u := put_put
@[simp] theorem u_onLp {ds : List Vm.D} {k : List Vm.D → Prop} : onL (put S a (.lst ds)) a k = k ds := by unfold onL; rw [put_same]
@[simp] theorem u_onRp {ds : List Vm.D} {k : List Vm.D → Prop} : onR (put S a (.lst ds)) a k = k ds := by unfold onR; rw [put_same]
@[simp] theorem u_nx {Q : KE} {Γ : Gam} : (finD Q).nx Γ S = Weak (Q .non) S := propext Iff.rfl
@[simp] theorem u_rt {Q : KE} : (finD Q).rt d S = Weak (Q d) S := propext Iff.rfl
@[simp] theorem u_fx {E : XP} {x : Ex} : finX E x Γ S = Weak (E x) S := propext Iff.rfl
@[simp] theorem u_g1 : getS (some (some (.int i))) Q S = Q (.int i) S := propext Iff.rfl
@[simp] theorem u_g2 {b : Bool} : getS (some (some (.bl b))) Q S = Q (.bl b) S := propext Iff.rfl
@[simp] theorem u_g3 {b : Str} : getS (some (some (.str b))) Q S = Q (.str b) S := propext Iff.rfl
@[simp] theorem u_g4 {b : List Vm.D} : getS (some (some (.tup b))) Q S = Q (.tup b) S := propext Iff.rfl
@[simp] theorem u_g5 : getS (some (some (.ref a))) Q S = Q (.ref a) S := propext Iff.rfl
@[simp] theorem u_g6 : getS (some (some .non)) Q S = Q .non S := propext Iff.rfl
@[simp] theorem u_g7 {b : Bt} : getS (some (some (.ty b))) Q S = Q (.ty b) S := propext Iff.rfl
@[simp] theorem u_g8 {b : Str} : getS (some (some (.cls b))) Q S = Q (.cls b) S := propext Iff.rfl
@[simp] theorem u_slot {n : Nat} : slotW n Γ S Q E = getS Γ[n]? Q S := propext Iff.rfl
end
theorem onL_eq {S : Sto} {a : Addr} {ds : List D} {k : List D → Prop} (h : S a = some (.lst ds)) : onL S a k = k ds := by unfold onL; rw [h]
theorem onR_eq {S : Sto} {a : Addr} {ds : List D} {k : List D → Prop} (h : S a = some (.lst ds)) : onR S a k = k ds := by unfold onR; rw [h]
theorem onR_scr {S : Sto} {a : Addr} {ds : List D} {k : List D → Prop} (h : S a = some (.scr ds)) : onR S a k = k ds := by unfold onR; rw [h]
theorem atI0 {x : D} {r : List D} : atI (x :: r) 0 = some x := by simp [atI, ixN]
theorem at2 {x y : D} : atI [x, y] 0 = some x ∧ atI [x, y] 1 = some y := by constructor <;> simp [atI, ixN]
theorem at3 {x y z : D} : atI [x, y, z] 0 = some x ∧ atI [x, y, z] 1 = some y ∧ atI [x, y, z] 2 = some z := by refine ⟨?_, ?_, ?_⟩ <;> simp [atI, ixN]
/-- one list may change, the others stay -/
def Fr (p : Addr) (S S' : Sto) : Prop := ∀ q o, q ≠ p → S q = some o → S' q = some o
theorem Fr.refl {p : Addr} {S : Sto} : Fr p S S := fun _ _ _ h => h
theorem Fr.trans {p : Addr} {S S1 S2 : Sto} (a : Fr p S S1) (b : Fr p S1 S2) : Fr p S S2 := fun q o n h => b q o n (a q o n h)
theorem Fr.put {p : Addr} {S : Sto} {o : MO} : Fr p S (Vm.put S p o) := fun q u n h => by rw [put_ne n]; exact h
theorem Fr.new {p q : Addr} {S : Sto} {o : MO} (h : S q = none) : Fr p S (Vm.put S q o) := fun r u n e => by rw [put_ne (ne_new e h)]; exact e
theorem Fr.sub {p : Addr} {S S1 : Sto} (h : Sub S S1) : Fr p S S1 := fun q o _ e => h q o e
/-- three numbers at p -/
def Pu (p : Addr) (S : Sto) : Prop := ∃ a b c : Int, S p = some (.lst [.int a, .int b, .int c])
theorem Pu.new {p q : Addr} {S : Sto} {o : MO} (h : Pu p S) (n : S q = none) : Pu p (Vm.put S q o) := by
  obtain ⟨a, b, c, e⟩ := h
  exact ⟨a, b, c, by rw [put_ne (ne_new e n)]; exact e⟩
end Vm
/-! VsA: what the defs promise, plainly: the purse, fractions. -/
namespace Vm
open PySem PySem.Spec PyProof.Rows L2
/-! ### numbers -/
theorem cp6 : CPow 10 6 := by unfold CPow; decide
theorem cp18 : CPow 10 18 := by unfold CPow; decide
theorem mulL {i j : Int} (h1 : -1000000000000 < i) (h2 : i < 1000000000000) : MulOk i j := MulOk.left (by omega) (by omega)
theorem mulR {i j : Int} (h1 : -1000000000000 < j) (h2 : j < 1000000000000) : MulOk i j := MulOk.right (by omega) (by omega)
theorem fmod_ge (a : Int) {m : Int} (h : 0 < m) : 0 ≤ a.fmod m := Int.fmod_nonneg_of_pos a h
theorem fmod_lt (a : Int) {m : Int} (h : 0 < m) : a.fmod m < m := Int.fmod_lt_of_pos a h
theorem divS {i j : Int} (h : 0 < j) (h2 : j < 1073741824) : DivOk i j := DivOk.small (by omega) (by omega) (by omega)
theorem fmod_nat (a b : Nat) : (a : Int).fmod (b : Int) = ((a % b : Nat) : Int) := by
  rw [Int.fmod_eq_emod_of_nonneg _ (Int.natCast_nonneg b)]
  rfl
theorem gcd_step (a b : Nat) : Nat.gcd b (a % b) = Nat.gcd a b := by
  rw [Nat.gcd_comm b (a % b), ← Nat.gcd_rec, Nat.gcd_comm]
/-! ### loops -/
theorem for_inv {body : D → Gam → Sto → (Gam → Sto → Prop) → Prop} {ok : Sto → Prop} {nx : Gam → Sto → Prop} (I : List D → Gam → Sto → Prop)
    (step : ∀ d ds Γ S K, I (d :: ds) Γ S → (∀ Γ' S', I ds Γ' S' → K Γ' S') → ok S ∧ body d Γ S K) (fin : ∀ Γ S, I [] Γ S → ok S ∧ nx Γ S) : ∀ ds Γ S, I ds Γ S → forW body ok nx ds Γ S
  | [], Γ, S, h => fin Γ S h
  | d :: ds, Γ, S, h => step d ds Γ S _ h fun Γ' S' h' => for_inv I step fin ds Γ' S' h'
theorem comp_inv {v : Nat} {Γ0 : Gam} {elt : WE} {ok : Sto → Prop} {p : Addr} {k : Sto → Prop} (I : List D → List D → Sto → Prop)
    (step : ∀ d ds acc S K, I (d :: ds) acc S → S p = some (.lst acc) → (∀ y S2, S2 p = some (.lst acc) → acc.length < sizeLine → I ds (acc ++ [y]) (put S2 p (.lst (acc ++ [y]))) → K y S2) → ok S ∧ elt (Γ0.set v (some d)) S K (fun _ _ => False))
    (fin : ∀ acc S, I [] acc S → S p = some (.lst acc) → ok S ∧ k S) : ∀ ds acc S, I ds acc S → S p = some (.lst acc) → compW (.nm v) Γ0 yesT elt ok p k ds S
  | [], acc, S, h, e => fin acc S h e
  | d :: ds, acc, S, h, e => by
    obtain ⟨h1, h2⟩ := step d ds acc S (fun y S2 => onL S2 p fun acc => acc.length < sizeLine ∧ compW (.nm v) Γ0 yesT elt ok p k ds (put S2 p (.lst (acc ++ [y])))) h e fun y S2 e2 hl h2 => by
      rw [onL_eq e2]
      exact ⟨hl, comp_inv I step fin ds (acc ++ [y]) _ h2 put_same⟩
    exact ⟨h1, h2⟩
theorem intsD_succ {lo : Int} {n : Nat} : intsD lo (n + 1) = .int lo :: intsD (lo + 1) n := by
  unfold intsD
  rw [List.range_succ_eq_map]
  simp only [List.map_cons, List.map_map]
  congr 1
  · simp
  · apply List.map_congr_left
    intro a _
    simp only [Function.comp]
    congr 1
    omega
theorem intsD_zero {lo : Int} : intsD lo 0 = [] := rfl
/-! ### the purse -/
def F_law_cell : FS := fun ds S Q E => ∃ (a : Addr) (ns : List Int) (k : Int), ds = [.ref a, .int k] ∧ ns.length ≤ 63 ∧ S a = some (.scr (ns.map D.int)) ∧ 0 ≤ k ∧ k < 1000 ∧ ∀ c : Int, Q (.int c) S
def N_law_cell : List Str := ["script", "k", "state", "cell"]
def w_law_cell : WS := seqW [
  ifS (tst (two (slotW 1) (bltW lenW [(slotW 0)]) ltW)) (seqW [
    retS (two (slotW 0) (slotW 1) ixW)]) (seqW []),
  asgS (two (two (valW (.int 40487)) (two (slotW 1) (valW (.int 3)) addW) mulW) (two (slotW 1) (valW (.int 7)) addW) mulW) (nmW (.nm 2)),
  forS (itW (slW (slotW 0) (partW none) (partW (some (valW (.int 4)))))) (.nm 3) (seqW [
    asgS (two (two (two (slotW 2) (valW (.int 30011)) mulW) (slotW 3) addW) (valW (.int 2147483563)) modW) (nmW (.nm 2))]),
  retS (slotW 2)]
theorem vc_law_cell (ds : List D) (S : Sto) (Q : KE) (E : XP) (h : F_law_cell ds S Q E) : w_law_cell (startG N_law_cell ds) S (finD Q) (finX E) := by
  obtain ⟨a, ns, k, rfl, hl, hs, h0, h1, hq⟩ := h
  show w_law_cell [some (.ref a), some (.int k), none, none] S (finD Q) (finX E)
  unfold w_law_cell
  have e1 : ∀ Q : KE, lenW [.ref a] S Q = Q (.int (ns.map D.int).length) S := fun Q => u_lenR (.inr hs)
  simp [onR_scr hs, e1]
  split
  · rename_i hk
    have ek : ixN ns.length k = some k.toNat := by unfold ixN; rw [if_pos h0, if_pos hk]
    have hk2 : k.toNat < ns.length := by omega
    simp [atI, ek, hk2]
    exact .of (hq _)
  · refine ⟨mulL (by omega) (by omega), mulR (by omega) (by omega), fun p hp => ?_⟩
    refine for_inv (fun ds Γ S' => (∃ ms : List Int, ds = ms.map D.int) ∧ (∃ st : Int, (∃ c, Γ = [some (.ref a), some (.int k), some (.int st), c])) ∧ (S' = put S p (.lst (cutD (ns.map D.int) none (some 4))))) ?_ ?_ _ _ _ ?_
    · rintro d ds Γ S' K ⟨⟨ms, e⟩, ⟨st, c, rfl⟩, hS⟩ hK
      subst hS
      cases ms with
      | nil => cases e
      | cons m ms =>
        cases e
        simp
        exact ⟨mulR (by omega) (by omega), hK _ _ ⟨⟨ms, rfl⟩, ⟨_, _, rfl⟩, rfl⟩⟩
    · rintro Γ S' ⟨_, ⟨st, c, rfl⟩, rfl⟩
      simp
      exact ⟨S, Sub.new hp, hq _⟩
    · refine ⟨⟨(ns.drop (HT.sIx ns.length 0 none)).take (HT.sIx ns.length ns.length (some 4) - HT.sIx ns.length 0 none), ?_⟩, ⟨_, _, rfl⟩, rfl⟩
      unfold cutD
      simp
def F_law_purse : FS := fun ds S Q E => ∃ c : Int, ds = [.int c] ∧ ∀ p S', S p = none → Fr p S S' → Pu p S' → Q (.ref p) S'
def N_law_purse : List Str := ["cell", "digits"]
def w_law_purse : WS := seqW [
  asgS (valW (.int 0)) (nmW (.nm 1)),
  ifS (orT [(tst (two (slotW 0) (valW (.int 0)) ltW)), (tst (two (slotW 0) (two (valW (.int 10)) (valW (.int 18)) powW) geW))]) (seqW [
    asgS (bltW absW [(slotW 0)]) (nmW (.nm 1))]) (seqW []),
  retS (lstW [(two (slotW 0) (valW (.int 2147483563)) modW), (slotW 1), (valW (.int 0))])]
theorem vc_law_purse (ds : List D) (S : Sto) (Q : KE) (E : XP) (h : F_law_purse ds S Q E) : w_law_purse (startG N_law_purse ds) S (finD Q) (finX E) := by
  obtain ⟨c, rfl, hq⟩ := h
  show w_law_purse [some (.int c), none] S (finD Q) (finX E)
  unfold w_law_purse
  simp
  have key : ∀ (x y : Int) (p : Addr), S p = none → Weak (Q (D.ref p)) (put S p (MO.lst [D.int x, D.int y, D.int 0])) := fun x y p hp => .of (hq p _ hp (Fr.new hp) ⟨_, _, _, put_same⟩)
  split
  · exact fun p hp => key _ _ p hp
  · refine ⟨cp18, ?_⟩
    split
    · exact fun p hp => key _ _ p hp
    · exact fun p hp => key _ _ p hp
def F_law_take : FS := fun ds S Q E => ∃ (p : Addr) (m : Int), ds = [.ref p, .int m] ∧ 0 < m ∧ m < 1073741824 ∧ Pu p S ∧ ∀ (t : Int) S', 0 ≤ t → t < m → Fr p S S' → Pu p S' → Q (.int t) S'
def N_law_take : List Str := ["purse", "many", "state", "taken"]
def w_law_take : WS := seqW [
  asgS (two (two (slotW 0) (valW (.int 2)) ixW) (valW (.int 1)) addW) (subG (slotW 0) (valW (.int 2))),
  asgS (two (slotW 0) (valW (.int 0)) ixW) (nmW (.nm 2)),
  asgS (two (two (two (slotW 2) (two (two (slotW 2) (valW (.int 45989)) modW) (valW (.int 28019)) addW) mulW) (two (valW (.int 104723)) (two (slotW 0) (valW (.int 2)) ixW) mulW) addW) (valW (.int 2147483563)) modW) (subG (slotW 0) (valW (.int 0))),
  ifS (tst (two (two (slotW 0) (valW (.int 1)) ixW) (valW (.int 0)) gtW)) (seqW [
    asgS (two (two (slotW 0) (valW (.int 1)) ixW) (slotW 1) modW) (nmW (.nm 3)),
    asgS (two (two (slotW 0) (valW (.int 1)) ixW) (slotW 1) fdivW) (subG (slotW 0) (valW (.int 1))),
    retS (slotW 3)]) (seqW []),
  retS (two (two (two (slotW 0) (valW (.int 0)) ixW) (valW (.int 32)) fdivW) (slotW 1) modW)]
theorem vc_law_take (ds : List D) (S : Sto) (Q : KE) (E : XP) (h : F_law_take ds S Q E) : w_law_take (startG N_law_take ds) S (finD Q) (finX E) := by
  obtain ⟨p, m, rfl, h0, h1, ⟨a, b, c, hp⟩, hq⟩ := h
  show w_law_take [some (.ref p), some (.int m), none, none] S (finD Q) (finX E)
  unfold w_law_take
  simp [onL_eq hp, onR_eq hp, at3, ixN]
  have f1 := fmod_ge a (m := 45989) (by decide)
  have f2 := fmod_lt a (m := 45989) (by decide)
  refine ⟨mulR (by omega) (by omega), mulL (by omega) (by omega), ?_⟩
  split
  · exact ⟨by omega, divS h0 h1, .of (hq _ _ (fmod_ge _ h0) (fmod_lt _ h0) Fr.put ⟨_, _, _, put_same⟩)⟩
  · exact ⟨divS (by omega) (by omega), by omega, .of (hq _ _ (fmod_ge _ h0) (fmod_lt _ h0) Fr.put ⟨_, _, _, put_same⟩)⟩
/-! ### fractions -/
structure S9 (i : Int) : Prop where
  h : i.natAbs < 2 ^ 9000
structure Sz (i : Int) : Prop where
  h : i.natAbs < 2 ^ 3000
theorem S9.neg {i : Int} (h : S9 i) : S9 (-i) := ⟨by rw [Int.natAbs_neg]; exact h.h⟩
theorem Sz.neg {i : Int} (h : Sz i) : Sz (-i) := ⟨by rw [Int.natAbs_neg]; exact h.h⟩
theorem Sz.mulok {i j : Int} (h1 : Sz i) (h2 : Sz j) : MulOk i j := MulOk.bits (a := 3000) (b := 3000) h1.h h2.h (by decide) (by decide) (by decide)
theorem Sz.mul {i j : Int} (h1 : Sz i) (h2 : Sz j) : S9 (i * j) := ⟨by
  rw [Int.natAbs_mul]
  have h : i.natAbs * j.natAbs < 2 ^ 3000 * 2 ^ 3000 := Nat.mul_lt_mul'' h1.h h2.h
  rw [← Nat.pow_add] at h
  exact Nat.lt_of_lt_of_le h (Nat.pow_le_pow_right (by decide) (by decide))⟩
theorem Sz.s9 {i : Int} (h : Sz i) : S9 i := ⟨Nat.lt_of_lt_of_le h.h (Nat.pow_le_pow_right (by decide) (by decide))⟩
def fracD (t b : Int) : D := .tup [.int (t.fdiv (if b < 0 then -(Int.gcd t b : Int) else (Int.gcd t b : Int))), .int (b.fdiv (if b < 0 then -(Int.gcd t b : Int) else (Int.gcd t b : Int)))]
def dueD (t b : Int) : D := if b = 0 then .str "number" else fracD t b
def F_divisor : FS := fun ds S Q E => ∃ x y : Int, ds = [.int x, .int y] ∧ Q (.int (Int.gcd x y)) S
def N_divisor : List Str := ["one", "other", "a", "b"]
def w_divisor : WS := seqW [
  asgS (tupW [(bltW absW [(slotW 0)]), (bltW absW [(slotW 1)])]) (nmW (.tp [(.nm 2), (.nm 3)])),
  whileS (tst (two (slotW 3) (valW (.int 0)) gtW)) (seqW [
    asgS (tupW [(slotW 3), (two (slotW 2) (slotW 3) modW)]) (nmW (.tp [(.nm 2), (.nm 3)]))]),
  retS (slotW 2)]
theorem vc_divisor (ds : List D) (S : Sto) (Q : KE) (E : XP) (h : F_divisor ds S Q E) : w_divisor (startG N_divisor ds) S (finD Q) (finX E) := by
  obtain ⟨x, y, rfl, hq⟩ := h
  show w_divisor [some (.int x), some (.int y), none, none] S (finD Q) (finX E)
  unfold w_divisor
  simp
  refine ⟨fun m Γ S' => ∃ a : Nat, Γ = [some (.int x), some (.int y), some (.int a), some (.int m)] ∧ S' = S ∧ Nat.gcd a m = Int.gcd x y, ⟨y.natAbs, x.natAbs, rfl, rfl, rfl⟩, ?_⟩
  rintro m Γ S' ⟨a, rfl, rfl, hg⟩
  simp
  split
  · rename_i hm
    refine ⟨by omega, a % m, Nat.mod_lt _ hm, m, ?_, ?_⟩
    · rw [fmod_nat]
      exact ⟨rfl, rfl⟩
    · rw [gcd_step, hg]
  · rename_i hm
    have : m = 0 := by omega
    subst this
    rw [Nat.gcd_zero_right] at hg
    rw [hg]
    exact .of hq
def F_fraction : FS := fun ds S Q E => ∃ t b : Int, ds = [.int t, .int b] ∧ (b = 0 → E ⟨"NoNumber", []⟩ S) ∧ (b ≠ 0 → S9 b ∧ Q (fracD t b) S)
def N_fraction : List Str := ["top", "bottom", "part"]
def w_fraction : WS := seqW [
  ifS (tst (two (slotW 1) (valW (.int 0)) (eqW false))) (seqW [
    raiseS "NoNumber"]) (seqW []),
  asgS (callW F_divisor [(slotW 0), (slotW 1)]) (nmW (.nm 2)),
  ifS (tst (two (slotW 1) (valW (.int 0)) ltW)) (seqW [
    asgS (two (valW (.int 0)) (slotW 2) subW) (nmW (.nm 2))]) (seqW []),
  retS (tupW [(two (slotW 0) (slotW 2) fdivW), (two (slotW 1) (slotW 2) fdivW)])]
theorem gcd_div {t b : Int} (h : b ≠ 0) (hb : S9 b) {x : Int} : (Int.gcd t b : Int) ≠ 0 ∧ DivOk x (Int.gcd t b) ∧ DivOk x (-(Int.gcd t b : Int)) := by
  have h1 : 0 < Int.gcd t b := Int.gcd_pos_of_ne_zero_right t h
  have h2 : Int.gcd t b ≤ b.natAbs := Int.gcd_le_natAbs_right t h
  have h3 : Int.gcd t b < 2 ^ 9000 := Nat.lt_of_le_of_lt h2 hb.h
  refine ⟨by omega, DivOk.bits (n := 9000) (by omega) (by simpa using h3) (by decide) (by decide), DivOk.bits (n := 9000) (by omega) (by simpa using h3) (by decide) (by decide)⟩
theorem vc_fraction (ds : List D) (S : Sto) (Q : KE) (E : XP) (h : F_fraction ds S Q E) : w_fraction (startG N_fraction ds) S (finD Q) (finX E) := by
  obtain ⟨t, b, rfl, he, hq⟩ := h
  show w_fraction [some (.int t), some (.int b), none] S (finD Q) (finX E)
  unfold w_fraction
  simp
  split
  · rename_i h0
    exact .of (he h0)
  · rename_i h0
    obtain ⟨hb, hq⟩ := hq h0
    refine ⟨t, b, rfl, ?_⟩
    obtain ⟨g1, g2, g3⟩ := gcd_div (t := t) h0 hb (x := t)
    obtain ⟨_, g4, g5⟩ := gcd_div (t := t) h0 hb (x := b)
    unfold fracD at hq
    simp
    split
    · rename_i hn
      rw [if_pos hn] at hq
      exact ⟨g3, g5, .of hq⟩
    · rename_i hn
      rw [if_neg hn] at hq
      exact ⟨g2, g4, .of hq⟩
def F_law_low : FS := fun ds S Q E => ∃ t b : Int, ds = [.int t, .int b] ∧ 0 < b ∧ S9 b ∧ Q (fracD t b) S
def N_law_low : List Str := ["top", "bottom", "a", "b"]
def w_law_low : WS := seqW [
  asgS (tupW [(bltW absW [(slotW 0)]), (slotW 1)]) (nmW (.tp [(.nm 2), (.nm 3)])),
  whileS (tst (two (slotW 3) (valW (.int 0)) gtW)) (seqW [
    asgS (tupW [(slotW 3), (two (slotW 2) (slotW 3) modW)]) (nmW (.tp [(.nm 2), (.nm 3)]))]),
  retS (tupW [(two (slotW 0) (slotW 2) fdivW), (two (slotW 1) (slotW 2) fdivW)])]
theorem vc_law_low (ds : List D) (S : Sto) (Q : KE) (E : XP) (h : F_law_low ds S Q E) : w_law_low (startG N_law_low ds) S (finD Q) (finX E) := by
  obtain ⟨x, y, rfl, h0, hb, hq⟩ := h
  show w_law_low [some (.int x), some (.int y), none, none] S (finD Q) (finX E)
  unfold w_law_low
  simp
  refine ⟨fun m Γ S' => ∃ a : Nat, Γ = [some (.int x), some (.int y), some (.int a), some (.int m)] ∧ S' = S ∧ Nat.gcd a m = Int.gcd x y, ⟨y.natAbs, x.natAbs, by rw [Int.natAbs_of_nonneg (Int.le_of_lt h0)], rfl, rfl⟩, ?_⟩
  rintro m Γ S' ⟨a, rfl, rfl, hg⟩
  simp
  split
  · rename_i hm
    refine ⟨by omega, a % m, Nat.mod_lt _ hm, m, ?_, ?_⟩
    · rw [fmod_nat]
      exact ⟨rfl, rfl⟩
    · rw [gcd_step, hg]
  · rename_i hm
    have : m = 0 := by omega
    subst this
    rw [Nat.gcd_zero_right] at hg
    rw [hg]
    have h1 : y ≠ 0 := by omega
    unfold fracD at hq
    rw [if_neg (by omega)] at hq
    exact ⟨(gcd_div (t := x) h1 hb).2.1, (gcd_div (t := x) h1 hb).2.1, .of hq⟩
theorem frac_neg {t b : Int} (h : b < 0) : fracD (0 - t) (0 - b) = fracD t b := by
  unfold fracD
  rw [if_neg (by omega), if_pos h]
  rw [Int.zero_sub, Int.zero_sub, Int.gcd_neg, Int.neg_gcd]
  rw [← Int.neg_fdiv_neg t, ← Int.neg_fdiv_neg b, Int.neg_neg]
def F_law_due : FS := fun ds S Q E => ∃ t b : Int, ds = [.int t, .int b] ∧ S9 b ∧ Q (dueD t b) S
def N_law_due : List Str := ["top", "bottom"]
def w_law_due : WS := seqW [
  ifS (tst (two (slotW 1) (valW (.int 0)) (eqW false))) (seqW [
    retS (valW (.str "number"))]) (seqW []),
  ifS (tst (two (slotW 1) (valW (.int 0)) ltW)) (seqW [
    retS (callW F_law_low [(two (valW (.int 0)) (slotW 0) subW), (two (valW (.int 0)) (slotW 1) subW)])]) (seqW []),
  retS (callW F_law_low [(slotW 0), (slotW 1)])]
theorem vc_law_due (ds : List D) (S : Sto) (Q : KE) (E : XP) (h : F_law_due ds S Q E) : w_law_due (startG N_law_due ds) S (finD Q) (finX E) := by
  obtain ⟨t, b, rfl, hb, hq⟩ := h
  show w_law_due [some (.int t), some (.int b)] S (finD Q) (finX E)
  unfold w_law_due
  unfold dueD at hq
  simp
  split
  · rename_i h0
    rw [if_pos h0] at hq
    exact .of hq
  · rename_i h0
    rw [if_neg h0] at hq
    split
    · rename_i hn
      refine ⟨-t, -b, rfl, by omega, hb.neg, ?_⟩
      have e := frac_neg (t := t) hn
      rw [Int.zero_sub, Int.zero_sub] at e
      rw [e]
      exact .of hq
    · exact ⟨t, b, rfl, by omega, hb, .of hq⟩
end Vm
/-! VsB: what the defs promise, plainly: the law of fractions. -/
namespace Vm
open PySem PySem.Spec PyProof.Rows L2
/-! ### fractions, reckoned with -/
abbrev frD (a b : Int) : D := .tup [.int a, .int b]
def szF (a b c d : Int) : Prop := Sz a ∧ Sz b ∧ Sz c ∧ Sz d
def fr2 (f : Int → Int → Int → Int → Int × Int) : FS := fun ds S Q E => ∃ a b c d : Int, ds = [frD a b, frD c d] ∧ szF a b c d ∧ S9 (f a b c d).2 ∧ ((f a b c d).2 = 0 → E ⟨"NoNumber", []⟩ S) ∧ ((f a b c d).2 ≠ 0 → Q (fracD (f a b c d).1 (f a b c d).2) S)
def F_plus : FS := fr2 fun a b c d => (a * d + c * b, b * d)
def F_minus : FS := fr2 fun a b c d => (a * d - c * b, b * d)
def F_times : FS := fr2 fun a b c d => (a * c, b * d)
def F_over : FS := fr2 fun a b c d => (a * d, b * c)
def N_plus : List Str := ["a", "b"]
def w_plus : WS := seqW [
  retS (callW F_fraction [(two (two (two (slotW 0) (valW (.int 0)) ixW) (two (slotW 1) (valW (.int 1)) ixW) mulW) (two (two (slotW 1) (valW (.int 0)) ixW) (two (slotW 0) (valW (.int 1)) ixW) mulW) addW), (two (two (slotW 0) (valW (.int 1)) ixW) (two (slotW 1) (valW (.int 1)) ixW) mulW)])]
def N_minus : List Str := ["a", "b"]
def w_minus : WS := seqW [
  retS (callW F_fraction [(two (two (two (slotW 0) (valW (.int 0)) ixW) (two (slotW 1) (valW (.int 1)) ixW) mulW) (two (two (slotW 1) (valW (.int 0)) ixW) (two (slotW 0) (valW (.int 1)) ixW) mulW) subW), (two (two (slotW 0) (valW (.int 1)) ixW) (two (slotW 1) (valW (.int 1)) ixW) mulW)])]
def N_times : List Str := ["a", "b"]
def w_times : WS := seqW [
  retS (callW F_fraction [(two (two (slotW 0) (valW (.int 0)) ixW) (two (slotW 1) (valW (.int 0)) ixW) mulW), (two (two (slotW 0) (valW (.int 1)) ixW) (two (slotW 1) (valW (.int 1)) ixW) mulW)])]
def N_over : List Str := ["a", "b"]
def w_over : WS := seqW [
  retS (callW F_fraction [(two (two (slotW 0) (valW (.int 0)) ixW) (two (slotW 1) (valW (.int 1)) ixW) mulW), (two (two (slotW 0) (valW (.int 1)) ixW) (two (slotW 1) (valW (.int 0)) ixW) mulW)])]
theorem vc_plus (ds : List D) (S : Sto) (Q : KE) (E : XP) (h : F_plus ds S Q E) : w_plus (startG N_plus ds) S (finD Q) (finX E) := by
  obtain ⟨a, b, c, d, rfl, ⟨h1, h2, h3, h4⟩, hs, he, hq⟩ := h
  show w_plus [some (frD a b), some (frD c d)] S (finD Q) (finX E)
  unfold w_plus
  simp [at2]
  exact ⟨h1.mulok h4, h3.mulok h2, h2.mulok h4, _, _, rfl, fun z => .of (he z), fun z => ⟨hs, .of (hq z)⟩⟩
theorem vc_minus (ds : List D) (S : Sto) (Q : KE) (E : XP) (h : F_minus ds S Q E) : w_minus (startG N_minus ds) S (finD Q) (finX E) := by
  obtain ⟨a, b, c, d, rfl, ⟨h1, h2, h3, h4⟩, hs, he, hq⟩ := h
  show w_minus [some (frD a b), some (frD c d)] S (finD Q) (finX E)
  unfold w_minus
  simp [at2]
  exact ⟨h1.mulok h4, h3.mulok h2, h2.mulok h4, _, _, rfl, fun z => .of (he z), fun z => ⟨hs, .of (hq z)⟩⟩
theorem vc_times (ds : List D) (S : Sto) (Q : KE) (E : XP) (h : F_times ds S Q E) : w_times (startG N_times ds) S (finD Q) (finX E) := by
  obtain ⟨a, b, c, d, rfl, ⟨h1, h2, h3, h4⟩, hs, he, hq⟩ := h
  show w_times [some (frD a b), some (frD c d)] S (finD Q) (finX E)
  unfold w_times
  simp [at2]
  exact ⟨h1.mulok h3, h2.mulok h4, _, _, rfl, fun z => .of (he z), fun z => ⟨hs, .of (hq z)⟩⟩
theorem vc_over (ds : List D) (S : Sto) (Q : KE) (E : XP) (h : F_over ds S Q E) : w_over (startG N_over ds) S (finD Q) (finX E) := by
  obtain ⟨a, b, c, d, rfl, ⟨h1, h2, h3, h4⟩, hs, he, hq⟩ := h
  show w_over [some (frD a b), some (frD c d)] S (finD Q) (finX E)
  unfold w_over
  simp [at2]
  exact ⟨h1.mulok h4, h2.mulok h3, _, _, rfl, fun z => .of (he z), fun z => ⟨hs, .of (hq z)⟩⟩
def F_below : FS := fun ds S Q E => ∃ a b c d : Int, ds = [frD a b, frD c d] ∧ szF a b c d ∧ Q (.bl (decide (a * d < c * b))) S
def N_below : List Str := ["a", "b"]
def w_below : WS := seqW [
  retS (two (two (two (slotW 0) (valW (.int 0)) ixW) (two (slotW 1) (valW (.int 1)) ixW) mulW) (two (two (slotW 1) (valW (.int 0)) ixW) (two (slotW 0) (valW (.int 1)) ixW) mulW) ltW)]
theorem vc_below (ds : List D) (S : Sto) (Q : KE) (E : XP) (h : F_below ds S Q E) : w_below (startG N_below ds) S (finD Q) (finX E) := by
  obtain ⟨a, b, c, d, rfl, ⟨h1, h2, h3, h4⟩, hq⟩ := h
  show w_below [some (frD a b), some (frD c d)] S (finD Q) (finX E)
  unfold w_below
  simp [at2]
  exact ⟨h1.mulok h4, h3.mulok h2, .of hq⟩
/-! ### great numbers, fractions out of the purse -/
structure S1 (i : Int) : Prop where
  h : i.natAbs < 2 ^ 1000
theorem S1.sz {i : Int} (h : S1 i) : Sz i := ⟨Nat.lt_of_lt_of_le h.h (Nat.pow_le_pow_right (by decide) (by decide))⟩
theorem S1.mul {i j : Int} (h1 : S1 i) (h2 : S1 j) : Sz (i * j) := ⟨by
  rw [Int.natAbs_mul]
  have h : i.natAbs * j.natAbs < 2 ^ 1000 * 2 ^ 1000 := Nat.mul_lt_mul'' h1.h h2.h
  rw [← Nat.pow_add] at h
  exact Nat.lt_of_lt_of_le h (Nat.pow_le_pow_right (by decide) (by decide))⟩
def F_law_great : FS := fun ds S Q E => ∃ p, ds = [.ref p] ∧ Pu p S ∧ ∀ (n : Int) S', S1 n → Fr p S S' → Pu p S' → Q (.int n) S'
def N_law_great : List Str := ["purse", "number", "k"]
def w_law_great : WS := seqW [
  asgS (valW (.int 0)) (nmW (.nm 1)),
  forS (rngW [(two (lstW [(valW (.int 1)), (valW (.int 1)), (valW (.int 2)), (valW (.int 4)), (valW (.int 9)), (valW (.int 0)), (valW (.int 40))]) (callW F_law_take [(slotW 0), (valW (.int 7))]) ixW)]) (.nm 2) (seqW [
    asgS (two (two (slotW 1) (two (valW (.int 10)) (valW (.int 6)) powW) mulW) (callW F_law_take [(slotW 0), (two (lstW [(two (valW (.int 10)) (valW (.int 6)) powW), (valW (.int 10)), (valW (.int 1000))]) (two (slotW 2) (valW (.int 3)) modW) ixW)]) addW) (nmW (.nm 1))]),
  retS (two (slotW 1) (two (valW (.int 1)) (two (valW (.int 2)) (callW F_law_take [(slotW 0), (valW (.int 2))]) mulW) subW) mulW)]
theorem ten_pow {n : Nat} : (10 : Int) ^ (6 * n) = ((10 ^ (6 * n) : Nat) : Int) := by simp
theorem great_step {x t : Int} {i : Nat} (h1 : 0 ≤ x) (h2 : x < 10 ^ (6 * i)) (t1 : 0 ≤ t) (t2 : t < 1000000) : 0 ≤ x * 10 ^ 6 + t ∧ x * 10 ^ 6 + t < 10 ^ (6 * (i + 1)) := by
  have e : (10 : Int) ^ (6 * (i + 1)) = 10 ^ (6 * i) * 1000000 := by
    rw [Nat.mul_add, Int.pow_add]
    rfl
  rw [e]
  generalize (10 : Int) ^ (6 * i) = y at *
  constructor <;> omega
theorem vc_law_great (ds : List D) (S : Sto) (Q : KE) (E : XP) (h : F_law_great ds S Q E) : w_law_great (startG N_law_great ds) S (finD Q) (finX E) := by
  obtain ⟨p, rfl, hp, hq⟩ := h
  show w_law_great [some (.ref p), none, none] S (finD Q) (finX E)
  unfold w_law_great
  simp
  intro l hl
  refine ⟨p, 7, rfl, by decide, by decide, hp.new hl, fun t S1 t0 t1 f1 p1 => ?_⟩
  have hnp : l ≠ p := fun e => by
    obtain ⟨_, _, _, z⟩ := hp
    rw [e, z] at hl; cases hl
  have hS : S1 l = some (.lst [.int 1, .int 1, .int 2, .int 4, .int 9, .int 0, .int 40]) := f1 l _ hnp put_same
  have ht : t = 0 ∨ t = 1 ∨ t = 2 ∨ t = 3 ∨ t = 4 ∨ t = 5 ∨ t = 6 := by omega
  have key : ∃ c : Int, atI [D.int 1, .int 1, .int 2, .int 4, .int 9, .int 0, .int 40] t = some (.int c) ∧ 0 ≤ c ∧ c ≤ 40 := by
    rcases ht with rfl | rfl | rfl | rfl | rfl | rfl | rfl
    · exact ⟨1, rfl, by decide, by decide⟩
    · exact ⟨1, rfl, by decide, by decide⟩
    · exact ⟨2, rfl, by decide, by decide⟩
    · exact ⟨4, rfl, by decide, by decide⟩
    · exact ⟨9, rfl, by decide, by decide⟩
    · exact ⟨0, rfl, by decide, by decide⟩
    · exact ⟨40, rfl, by decide, by decide⟩
  obtain ⟨c, ec, c0, c1⟩ := key
  simp [onR_eq hS, ec]
  have fS : Fr p S S1 := (Fr.new hl).trans f1
  refine ⟨by omega, ?_⟩
  refine for_inv (fun ds Γ S' => ∃ (n i : Nat) (x : Int) (g : Option D), ds = intsD i n ∧ n + i = c.toNat ∧ Γ = [some (.ref p), some (.int x), g] ∧ 0 ≤ x ∧ x < 10 ^ (6 * i) ∧ Fr p S S' ∧ Pu p S') ?_ ?_ _ _ _ ?_
  · rintro d ds Γ S' K ⟨n, i, x, g, e, hn, rfl, x0, x1, f, pu⟩ hK
    cases n with
    | zero => cases e
    | succ n =>
      rw [intsD_succ] at e
      cases e
      simp
      refine ⟨cp6, mulR (by decide) (by decide), cp6, fun l2 hl2 => ?_⟩
      have h3 := fmod_ge (i : Int) (m := 3) (by decide)
      have h4 := fmod_lt (i : Int) (m := 3) (by decide)
      generalize (i : Int).fmod 3 = r at h3 h4 ⊢
      have key : ∃ m : Int, atI [D.int 1000000, .int 10, .int 1000] r = some (.int m) ∧ 0 < m ∧ m ≤ 1000000 := by
        have hr : r = 0 ∨ r = 1 ∨ r = 2 := by omega
        rcases hr with rfl | rfl | rfl
        · exact ⟨1000000, rfl, by decide, by decide⟩
        · exact ⟨10, rfl, by decide, by decide⟩
        · exact ⟨1000, rfl, by decide, by decide⟩
      obtain ⟨m, em, m0, m1⟩ := key
      simp [em]
      refine ⟨p, m, rfl, m0, by omega, pu.new hl2, fun t S2 t0 t1 f2 p2 => ?_⟩
      obtain ⟨y0, y1⟩ := great_step x0 x1 t0 (show t < 1000000 by omega)
      exact hK _ _ ⟨n, i + 1, _, _, rfl, by omega, rfl, y0, y1, (f.trans (Fr.new hl2)).trans f2, p2⟩
  · rintro Γ S' ⟨n, i, x, g, e, hn, rfl, x0, x1, f, pu⟩
    simp
    refine ⟨p, 2, rfl, by decide, by decide, pu, fun t S2 t0 t1 f2 p2 => ⟨mulL (by decide) (by decide), mulR (by omega) (by omega), .of (hq _ _ ?_ (f.trans f2) p2)⟩⟩
    cases n with
    | succ n => rw [intsD_succ] at e; cases e
    | zero =>
      have hi : i ≤ 40 := by omega
      have x2 : x.natAbs < 10 ^ (6 * 40) := by
        have h5 : (10 : Int) ^ (6 * i) ≤ 10 ^ (6 * 40) := by
          have : (10 : Nat) ^ (6 * i) ≤ 10 ^ (6 * 40) := Nat.pow_le_pow_right (by decide) (by omega)
          rw [ten_pow, ten_pow]
          exact Int.ofNat_le.mpr this
        have h6 : x < 10 ^ (6 * 40) := Int.lt_of_lt_of_le x1 h5
        rw [ten_pow] at h6
        omega
      have x3 : (10 : Nat) ^ (6 * 40) < 2 ^ 1000 := by decide +kernel
      have ht : t = 0 ∨ t = 1 := by omega
      rcases ht with rfl | rfl
      · rw [show x * (1 - 2 * 0) = x by omega]
        exact ⟨Nat.lt_trans x2 x3⟩
      · rw [show x * (1 - 2 * 1) = -x by omega]
        exact ⟨by rw [Int.natAbs_neg]; exact Nat.lt_trans x2 x3⟩
  · refine ⟨c.toNat, 0, 0, none, rfl, by omega, rfl, by decide, by decide, fS, p1⟩
end Vm
/-! VsC: what the defs promise, plainly: sameness, the kinds of errors. -/
namespace Vm
open PySem PySem.Spec PyProof.Rows L2
/-! ### sameness -/
def okD : Nat → D → Bool
  | 0, _ => false
  | n + 1, d => match d with
    | .non => true | .bl _ => true | .int _ => true | .str _ => true
    | .tup ds => decide (ds.length ≤ 1000) && ds.all (okD n)
    | _ => false
def F_law_same (j : Nat) : FS := fun ds S Q E => ∃ x, ds = [x, x] ∧ okD j x = true ∧ Q (.bl true) S
def N_law_same : List Str := ["told", "due", "k"]
def w_law_same (j : Nat) : WS := seqW [
  ifS (tst (bltW isiW [(slotW 1), (valW (.ty .tuple))])) (seqW [
    ifS (orT [(notT (tst (bltW isiW [(slotW 0), (valW (.ty .tuple))]))), (tst (two (bltW lenW [(slotW 0)]) (bltW lenW [(slotW 1)]) (eqW true)))]) (seqW [
      retS (valW (.bl false))]) (seqW []),
    retS (bltW allW [(lcW (rngW [(bltW lenW [(slotW 1)])]) (.nm 2) [2] yesT (callW (F_law_same j) [(two (slotW 0) (slotW 2) ixW), (two (slotW 1) (slotW 2) ixW)]))])]) (seqW []),
  ifS (orT [(tst (two (slotW 1) (valW .non) (isW false))), (tst (bltW isiW [(slotW 1), (valW (.ty .bool))]))]) (seqW [
    retS (orV [(andV [(two (slotW 0) (valW .non) (isW false)), (two (slotW 1) (valW .non) (isW false))]), (andV [(bltW isiW [(slotW 0), (valW (.ty .bool))]), (two (slotW 0) (slotW 1) (eqW false))])])]) (seqW []),
  ifS (tst (bltW isiW [(slotW 1), (valW (.ty .str))])) (seqW [
    retS (andV [(bltW isiW [(slotW 0), (valW (.ty .str))]), (two (slotW 0) (slotW 1) (eqW false))])]) (seqW []),
  retS (andV [(bltW isiW [(slotW 0), (valW (.ty .int))]), (oneW (bltW isiW [(slotW 0), (valW (.ty .bool))]) notW), (two (slotW 0) (slotW 1) (eqW false))])]
theorem bls_true : ∀ {acc : List D}, (∀ d ∈ acc, d = .bl true) → ∃ bs, allM asBl acc = some bs ∧ bs.all id = true
  | [], _ => ⟨[], rfl, rfl⟩
  | d :: ds, h => by
    obtain ⟨bs, h1, h2⟩ := bls_true (acc := ds) fun e he => h e (List.mem_cons_of_mem _ he)
    have hd := h d List.mem_cons_self
    subst hd
    refine ⟨true :: bs, ?_, ?_⟩
    · unfold allM
      rw [h1]
      rfl
    · simpa using h2
theorem allW_true {S : Sto} {a : Addr} {acc : List D} {Q : KE} (h : S a = some (.lst acc)) (ht : ∀ d ∈ acc, d = .bl true) (q : Q (.bl true) S) : allW [.ref a] S Q := by
  unfold allW
  show onR S a _
  rw [onR_eq h]
  obtain ⟨bs, h1, h2⟩ := bls_true ht
  rw [h1]
  show Q (.bl (bs.all id)) S
  rw [h2]
  exact q
theorem Sub.put {S S' : Sto} {p : Addr} {o : MO} (h : Sub S S') (n : S p = none) : Sub S (Vm.put S' p o) := fun a u e => by
  rw [put_ne (ne_new e n)]
  exact h a u e
theorem vc_law_same (j : Nat) (ds : List D) (S : Sto) (Q : KE) (E : XP) (h : F_law_same (j + 1) ds S Q E) : w_law_same j (startG N_law_same ds) S (finD Q) (finX E) := by
  obtain ⟨x, rfl, hx, hq⟩ := h
  show w_law_same j [some x, some x, none] S (finD Q) (finX E)
  unfold w_law_same
  cases x with
  | non => simp [isW]; exact .of hq
  | bl b => simp [isW]; exact .of hq
  | int i => simp [isW]; exact .of hq
  | str z => simp [isW]; exact .of hq
  | tup xs =>
    have hx' : (decide (xs.length ≤ 1000) && xs.all (okD j)) = true := hx
    rw [Bool.and_eq_true] at hx'
    obtain ⟨h1, h2⟩ := hx'
    have h1 := of_decide_eq_true h1
    simp
    refine ⟨by omega, fun p hp => ?_⟩
    refine comp_inv (fun rest acc S' => (∃ n i : Nat, rest = intsD i n ∧ i + n = xs.length ∧ acc.length = i) ∧ (∀ d ∈ acc, d = .bl true) ∧ Sub S S') ?_ ?_ _ [] _ ?_ put_same
    · rintro d ds acc S' K ⟨⟨n, i, e, hn, ha⟩, ht, hs⟩ hS hK
      cases n with
      | zero => cases e
      | succ n =>
        rw [intsD_succ] at e
        cases e
        have hi : i < xs.length := by omega
        have ea : atI xs (i : Int) = some xs[i] := by simp [atI, ixN, hi]
        simp [wipeG, clean, cleanO, ea]
        refine ⟨xs[i], rfl, List.all_eq_true.mp h2 _ (List.getElem_mem hi), hK _ _ hS (by rw [ha]; exact Nat.lt_of_lt_of_le (Nat.lt_of_lt_of_le hi h1) (by decide)) ⟨⟨n, i + 1, rfl, by omega, by simp [ha]⟩, ?_, hs.put hp⟩⟩
        intro e he
        rcases List.mem_append.mp he with z | z
        · exact ht e z
        · exact List.mem_singleton.mp z
    · rintro acc S' ⟨_, ht, hs⟩ hS
      exact ⟨trivial, allW_true hS ht ⟨S, hs, hq⟩⟩
    · exact ⟨⟨xs.length, 0, rfl, by omega, rfl⟩, fun d hd => (nomatch hd), Sub.new hp⟩
  | _ => cases hx
/-! ### the kinds of errors -/
def clsN : List String := ["NoNumber", "NoMany", "NoShade", "NoStuffs", "NoShelf", "NoCloths", "NoBook", "Fails", "NoHour", "NoName", "NoDeed", "NoBack", "NoMeasures", "NoStep", "TooLittle", "NoWeights", "NoPrices", "NoVat", "NoBrim", "NoRow"]
def isiV (x y : String) : Bool := x == y || y == "DyeError" || y == "ValueError"
def isiX : List String := ["NoNumber"]
def isiT : Subs := isiX.flatMap fun x => (clsN ++ ["DyeError", "ValueError"]).map fun y => ((Str.ofString x, Str.ofString y), isiV x y)
def subT : Subs := isiX.map fun x => ((Str.ofString x, Str.ofString "DyeError"), true)
def isiQ (x : Str) (v : List Bool) : Prop := (clsN ++ ["DyeError", "ValueError"]).map (fun y => isiT.lookup (x, Str.ofString y)) = v.map some
def F_law_kind : FS := fun ds S Q E => ds = [.exn "NoNumber" []] ∧ Q (.str "number") S
def N_law_kind : List Str := ["e", "flags", "words"]
def w_law_kind : WS := seqW [
  asgS (lstW [(isiE isiT 0 "NoNumber"), (isiE isiT 0 "NoMany"), (isiE isiT 0 "NoShade"), (isiE isiT 0 "NoStuffs")]) (nmW (.nm 1)),
  asgS (two (slotW 1) (lstW [(isiE isiT 0 "NoShelf"), (isiE isiT 0 "NoCloths"), (isiE isiT 0 "NoBook"), (isiE isiT 0 "Fails")]) addW) (nmW (.nm 1)),
  asgS (two (slotW 1) (lstW [(isiE isiT 0 "NoHour"), (isiE isiT 0 "NoName"), (isiE isiT 0 "NoDeed"), (isiE isiT 0 "NoBack")]) addW) (nmW (.nm 1)),
  asgS (two (slotW 1) (lstW [(isiE isiT 0 "NoMeasures"), (isiE isiT 0 "NoStep"), (isiE isiT 0 "TooLittle")]) addW) (nmW (.nm 1)),
  asgS (two (slotW 1) (lstW [(isiE isiT 0 "NoWeights"), (isiE isiT 0 "NoPrices"), (isiE isiT 0 "NoVat"), (isiE isiT 0 "NoBrim")]) addW) (nmW (.nm 1)),
  asgS (two (slotW 1) (lstW [(isiE isiT 0 "NoRow")]) addW) (nmW (.nm 1)),
  ifS (orT [(notT (tst (isiE isiT 0 "DyeError"))), (notT (tst (isiE isiT 0 "ValueError"))), (tst (two (lmW countW (slotW 1) [(valW (.bl true))]) (valW (.int 1)) (eqW true)))]) (seqW [
    retS (valW (.str "unlike"))]) (seqW []),
  asgS (lstW [(valW (.str "number")), (valW (.str "many")), (valW (.str "shade")), (valW (.str "stuffs")), (valW (.str "shelf")), (valW (.str "cloths")), (valW (.str "book")), (valW (.str "fails")), (valW (.str "hour")), (valW (.str "name")), (valW (.str "deed")), (valW (.str "back"))]) (nmW (.nm 2)),
  asgS (two (slotW 2) (lstW [(valW (.str "measures")), (valW (.str "step")), (valW (.str "little")), (valW (.str "weights")), (valW (.str "prices")), (valW (.str "vat")), (valW (.str "brim")), (valW (.str "row"))]) addW) (nmW (.nm 2)),
  retS (two (slotW 2) (lmW indexW (slotW 1) [(valW (.bl true))]) ixW)]
@[simp] theorem u_isiE {tb : Subs} {n : Nat} {y : Str} {Γ : Gam} {S : Sto} {Q : KE} {E : XP} : isiE tb n y Γ S Q E = exnAt Γ n fun c _ => (match tb.lookup (c, y) with | some b => Q (.bl b) S | none => False) := propext Iff.rfl
@[simp] theorem u_exnAt {c : Str} {fs : List (Str × D)} {Γ : Gam} {k : Str → List (Str × D) → Prop} : exnAt (some (.exn c fs) :: Γ) 0 k = k c fs := propext Iff.rfl
theorem add_new {S1 : Sto} {p q : Addr} {xs ys : List D} {Q : KE} (h : S1 p = some (.lst xs)) (n : S1 q = none) (hl : xs.length + ys.length ≤ sizeLine) (k : ∀ r S2, S2 r = some (.lst (xs ++ ys)) → Sub S1 S2 → Q (.ref r) S2) : addW (.ref p) (.ref q) (put S1 q (.lst ys)) Q := by
  unfold addW
  have e : put S1 q (.lst ys) p = some (.lst xs) := by rw [put_ne (ne_new h n)]; exact h
  simp only [onR_eq e, u_onRp, onL_eq e, u_onLp]
  refine ⟨hl, fun r hr => ?_⟩
  refine k r _ put_same ((Sub.new n).trans (Sub.new hr))
theorem isi_number : isiT.map (·.2) = [true, false, false, false, false, false, false, false, false, false, false, false, false, false, false, false, false, false, false, false, true, true] := by decide +kernel
theorem vc_law_kind (ds : List D) (S : Sto) (Q : KE) (E : XP) (h : F_law_kind ds S Q E) : w_law_kind (startG N_law_kind ds) S (finD Q) (finX E) := by
  obtain ⟨rfl, hq⟩ := h
  show w_law_kind [some (.exn "NoNumber" []), none, none] S (finD Q) (finX E)
  have l1 : isiT.lookup (Str.ofString "NoNumber", Str.ofString "NoNumber") = some true := by decide +kernel
  have l2 : isiT.lookup (Str.ofString "NoNumber", Str.ofString "NoMany") = some false := by decide +kernel
  have l3 : isiT.lookup (Str.ofString "NoNumber", Str.ofString "NoShade") = some false := by decide +kernel
  have l4 : isiT.lookup (Str.ofString "NoNumber", Str.ofString "NoStuffs") = some false := by decide +kernel
  have l5 : isiT.lookup (Str.ofString "NoNumber", Str.ofString "NoShelf") = some false := by decide +kernel
  have l6 : isiT.lookup (Str.ofString "NoNumber", Str.ofString "NoCloths") = some false := by decide +kernel
  have l7 : isiT.lookup (Str.ofString "NoNumber", Str.ofString "NoBook") = some false := by decide +kernel
  have l8 : isiT.lookup (Str.ofString "NoNumber", Str.ofString "Fails") = some false := by decide +kernel
  have l9 : isiT.lookup (Str.ofString "NoNumber", Str.ofString "NoHour") = some false := by decide +kernel
  have l10 : isiT.lookup (Str.ofString "NoNumber", Str.ofString "NoName") = some false := by decide +kernel
  have l11 : isiT.lookup (Str.ofString "NoNumber", Str.ofString "NoDeed") = some false := by decide +kernel
  have l12 : isiT.lookup (Str.ofString "NoNumber", Str.ofString "NoBack") = some false := by decide +kernel
  have l13 : isiT.lookup (Str.ofString "NoNumber", Str.ofString "NoMeasures") = some false := by decide +kernel
  have l14 : isiT.lookup (Str.ofString "NoNumber", Str.ofString "NoStep") = some false := by decide +kernel
  have l15 : isiT.lookup (Str.ofString "NoNumber", Str.ofString "TooLittle") = some false := by decide +kernel
  have l16 : isiT.lookup (Str.ofString "NoNumber", Str.ofString "NoWeights") = some false := by decide +kernel
  have l17 : isiT.lookup (Str.ofString "NoNumber", Str.ofString "NoPrices") = some false := by decide +kernel
  have l18 : isiT.lookup (Str.ofString "NoNumber", Str.ofString "NoVat") = some false := by decide +kernel
  have l19 : isiT.lookup (Str.ofString "NoNumber", Str.ofString "NoBrim") = some false := by decide +kernel
  have l20 : isiT.lookup (Str.ofString "NoNumber", Str.ofString "NoRow") = some false := by decide +kernel
  have l21 : isiT.lookup (Str.ofString "NoNumber", Str.ofString "DyeError") = some true := by decide +kernel
  have l22 : isiT.lookup (Str.ofString "NoNumber", Str.ofString "ValueError") = some true := by decide +kernel
  unfold w_law_kind
  simp [l1, l2, l3, l4, l5, l6, l7, l8, l9, l10, l11, l12, l13, l14, l15, l16, l17, l18, l19, l20, l21, l22]
  intro p1 h1 p2 h2
  refine add_new put_same h2 (by decide) fun r1 S1 e1 s1 => ?_
  simp
  intro p3 h3
  refine add_new e1 h3 (by decide) fun r2 S2 e2 s2 => ?_
  simp
  intro p4 h4
  refine add_new e2 h4 (by decide) fun r3 S3 e3 s3 => ?_
  simp
  intro p5 h5
  refine add_new e3 h5 (by decide) fun r4 S4 e4 s4 => ?_
  simp
  intro p6 h6
  refine add_new e4 h6 (by decide) fun r5 S5 e5 s5 => ?_
  simp [isL, e5, countW, onR_eq e5, flatD, eqF, List.countP_cons]
  intro q1 g1 q2 g2
  refine add_new put_same g2 (by decide) fun r6 S6 e6 s6 => ?_
  have e7 := s6 _ _ (Sub.new g1 _ _ e5)
  have hs : Sub S S6 := (Sub.new h1).trans (s1.trans (s2.trans (s3.trans (s4.trans (s5.trans ((Sub.new g1).trans s6))))))
  simp [isL, e7, indexW, onR_eq e7, flatD, eqF, firstF, List.findIdx?_cons, onR_eq e6, atI, ixN]
  exact ⟨S, hs, hq⟩
end Vm
/-! VsD: what the defs promise, plainly: the law of fractions, end. -/
namespace Vm
open PySem PySem.Spec PyProof.Rows L2
theorem Fr.keep {p l : Addr} {S S' : Sto} {o : MO} (h : Fr p S S') (n : S l = none) : Fr p S (Vm.put S' l o) := fun q u hq e => by
  rw [put_ne (ne_new e n)]
  exact h q u hq e
theorem Pu.ne {p l : Addr} {S : Sto} (h : Pu p S) (n : S l = none) : l ≠ p := fun e => by
  obtain ⟨_, _, _, z⟩ := h
  rw [e, z] at n
  cases n
theorem Pu.keep {p l : Addr} {S : Sto} {o : MO} (h : Pu p S) (n : l ≠ p) : Pu p (Vm.put S l o) := by
  obtain ⟨a, b, c, e⟩ := h
  exact ⟨a, b, c, by rw [put_ne (Ne.symm n)]; exact e⟩
theorem frac_pos {t b : Int} (hb : 0 < b) : ∃ x y : Int, fracD t b = frD x y ∧ 0 < y ∧ x.natAbs ≤ t.natAbs ∧ y.natAbs ≤ b.natAbs := by
  have hg : 0 < Int.gcd t b := Int.gcd_pos_of_ne_zero_right t (by omega)
  obtain ⟨x, hx⟩ := Int.gcd_dvd_left t b
  obtain ⟨y, hy⟩ := Int.gcd_dvd_right t b
  have e1 : t.fdiv (Int.gcd t b : Int) = x := by
    conv => lhs; arg 1; rw [hx]
    exact Int.mul_fdiv_cancel_left x (by omega)
  have e2 : b.fdiv (Int.gcd t b : Int) = y := by
    conv => lhs; arg 1; rw [hy]
    exact Int.mul_fdiv_cancel_left y (by omega)
  refine ⟨x, y, ?_, ?_, ?_, ?_⟩
  · unfold fracD
    rw [if_neg (by omega), e1, e2]
  · rcases Int.lt_or_le 0 y with z | z
    · exact z
    · have : (Int.gcd t b : Int) * y ≤ 0 := Int.mul_nonpos_of_nonneg_of_nonpos (by omega) z
      omega
  · have : t.natAbs = Int.gcd t b * x.natAbs := by
      conv => lhs; rw [hx]
      rw [Int.natAbs_mul, Int.natAbs_natCast]
    rw [this]
    exact Nat.le_mul_of_pos_left _ hg
  · have : b.natAbs = Int.gcd t b * y.natAbs := by
      conv => lhs; rw [hy]
      rw [Int.natAbs_mul, Int.natAbs_natCast]
    rw [this]
    exact Nat.le_mul_of_pos_left _ hg
def F_law_fraction : FS := fun ds S Q E => ∃ p, ds = [.ref p] ∧ Pu p S ∧ ∀ (a b : Int) S', Sz a → Sz b → 0 < b → Fr p S S' → Pu p S' → Q (frD a b) S'
def N_law_fraction : List Str := ["purse", "top"]
def w_law_fraction : WS := seqW [
  asgS (callW F_law_great [(slotW 0)]) (nmW (.nm 1)),
  retS (callW F_law_low [(slotW 1), (two (valW (.int 1)) (bltW absW [(callW F_law_great [(slotW 0)])]) addW)])]
theorem S1.succ {n : Int} (h : S1 n) : Sz (1 + (n.natAbs : Int)) := ⟨by
  have h1 := h.h
  have h2 : (2 : Nat) ^ 1000 ≤ 2 ^ 3000 - 2 := by decide +kernel
  have h3 : (1 + (n.natAbs : Int)).natAbs = 1 + n.natAbs := by omega
  rw [h3]
  generalize (2 : Nat) ^ 1000 = u at *
  have h4 : 2 ≤ (2 : Nat) ^ 3000 := by decide +kernel
  generalize (2 : Nat) ^ 3000 = v at *
  omega⟩
theorem vc_law_fraction (ds : List D) (S : Sto) (Q : KE) (E : XP) (h : F_law_fraction ds S Q E) : w_law_fraction (startG N_law_fraction ds) S (finD Q) (finX E) := by
  obtain ⟨p, rfl, hp, hq⟩ := h
  show w_law_fraction [some (.ref p), none] S (finD Q) (finX E)
  unfold w_law_fraction
  simp
  refine ⟨p, rfl, hp, fun n S1' hn f1 p1 => ⟨p, rfl, p1, fun m S2 hm f2 p2 => ?_⟩⟩
  refine ⟨n, 1 + (m.natAbs : Int), rfl, by omega, hm.succ.s9, ?_⟩
  obtain ⟨x, y, e, y0, x1, y1⟩ := frac_pos (t := n) (b := 1 + (m.natAbs : Int)) (by omega)
  rw [e]
  exact .of (hq x y _ ⟨Nat.lt_of_le_of_lt x1 hn.sz.h⟩ ⟨Nat.lt_of_le_of_lt y1 hm.succ.h⟩ y0 (f1.trans f2) p2)
def F_law_asked : FS := fun ds S Q E => ∃ (w : Str) (x y : D), ds = [.str w, x, y] ∧ ((w = "fraction" ∧ ∃ a b : Int, x = .int a ∧ y = .int b ∧ S9 b ∧ Q (dueD a b) S) ∨ (w = "over" ∧ ∃ a b c d : Int, x = frD a b ∧ y = frD c d ∧ szF a b c d ∧ Q (dueD (a * d) (b * c)) S))
def N_law_asked : List Str := ["word", "a", "b", "told", "e"]
def w_law_asked : WS := seqW [
  asgS (valW .non) (nmW (.nm 3)),
  tryAs subT "DyeError" 4 (seqW [
    ifS (tst (two (slotW 0) (valW (.str "fraction")) (eqW false))) (seqW [
      asgS (callW F_fraction [(slotW 1), (slotW 2)]) (nmW (.nm 3))]) (seqW [
      asgS (callW F_over [(slotW 1), (slotW 2)]) (nmW (.nm 3))])]) (seqW [
    asgS (callX F_law_kind 4) (nmW (.nm 3))]),
  retS (slotW 3)]
@[simp] theorem u_try {sb : Subs} {c : Str} {i : Nat} {mb ms : WS} {Γ : Gam} {S : Sto} {D : En} {X : XG} : tryAs sb c i mb ms Γ S D X = mb Γ S D (fun x Γ' S' => trySub sb c x (ms ((clean Γ').set i (some (.exn x.cls x.fs))) S' ⟨fun Γ2 S2 => D.nx (clean (Γ2.set i none)) S2, D.rt⟩ (fun _ _ _ => False)) (X x Γ' S')) := propext Iff.rfl
theorem u_trySub {sb : Subs} {c y : Str} {fs : List (Str × D)} {b : Bool} {p q : Prop} (h : sb.lookup (y, c) = some b) : trySub sb c ⟨y, fs⟩ p q = if b = true then p else q := by
  unfold trySub
  simp only [h]
  cases b <;> simp
@[simp] theorem u_callX {F : FS} {n : Nat} {Γ : Gam} {S : Sto} {Q : KE} {E : XP} : callX F n Γ S Q E = exnAt Γ n fun c fs => F [.exn c fs] S Q E := propext Iff.rfl
theorem u_exnN {n : Nat} {Γ : Gam} {k : Str → List (Str × D) → Prop} : exnAt Γ n k = (match Γ[n]? with | some (some (.exn c fs)) => k c fs | _ => False) := propext Iff.rfl
theorem sub_number : subT.lookup (("NoNumber" : Str), ("DyeError" : Str)) = some true := by decide +kernel
theorem due_zero {t b : Int} (h : b = 0) : dueD t b = .str "number" := by unfold dueD; rw [if_pos h]
theorem due_ne {t b : Int} (h : b ≠ 0) : dueD t b = fracD t b := by unfold dueD; rw [if_neg h]
theorem vc_law_asked (ds : List D) (S : Sto) (Q : KE) (E : XP) (h : F_law_asked ds S Q E) : w_law_asked (startG N_law_asked ds) S (finD Q) (finX E) := by
  obtain ⟨w, x, y, rfl, h⟩ := h
  show w_law_asked [some (.str w), some x, some y, none, none] S (finD Q) (finX E)
  unfold w_law_asked
  rcases h with ⟨rfl, a, b, rfl, rfl, hb, hq⟩ | ⟨rfl, a, b, c, d, rfl, rfl, hs, hq⟩
  · simp [u_trySub sub_number]
    refine ⟨a, b, rfl, fun h => ?_, fun h => ⟨hb, ?_⟩⟩
    · rw [due_zero h] at hq
      simp [u_trySub sub_number, u_exnN, clean, cleanO]
      exact ⟨rfl, .of hq⟩
    · rw [due_ne h] at hq
      exact .of hq
  · have ne : ¬ (("over" : Str) = ("fraction" : Str)) := by decide +kernel
    simp [u_trySub sub_number, ne]
    obtain ⟨h1, h2, h3, h4⟩ := hs
    refine ⟨a, b, c, d, rfl, ⟨h1, h2, h3, h4⟩, h2.mul h3, fun h => ?_, fun h => ?_⟩
    · have h : b * c = 0 := h
      rw [due_zero h] at hq
      simp [u_trySub sub_number, u_exnN, clean, cleanO]
      exact ⟨rfl, .of hq⟩
    · have h : b * c ≠ 0 := h
      rw [due_ne h] at hq
      exact .of hq
abbrev jmax : Nat := 4
theorem same_ok {j : Nat} {x : D} {S : Sto} {Q : KE} {E : XP} (h : okD j x = true) (q : Q (.bl true) S) : F_law_same j [x, x] S Q E := ⟨x, rfl, h, q⟩
@[simp] theorem getS_due {t b : Int} {Q : KE} {S : Sto} : getS (some (some (dueD t b))) Q S = Q (dueD t b) S := getS_ok (by unfold dueD; split <;> rfl)
@[simp] theorem getS_frac {t b : Int} {Q : KE} {S : Sto} : getS (some (some (fracD t b))) Q S = Q (fracD t b) S := getS_ok rfl
theorem ok_due {t b : Int} : okD jmax (dueD t b) = true := by unfold dueD; split <;> rfl
def F_law_both : FS := fun ds S Q E => ∃ a b c d : Int, ds = [frD a b, frD c d] ∧ szF a b c d ∧ b ≠ 0 ∧ d ≠ 0 ∧ Q (.bl true) S
def N_law_both : List Str := ["a", "b", "bottom", "one", "other"]
def w_law_both : WS := seqW [
  asgS (two (two (slotW 0) (valW (.int 1)) ixW) (two (slotW 1) (valW (.int 1)) ixW) mulW) (nmW (.nm 2)),
  asgS (tupW [(two (two (slotW 0) (valW (.int 0)) ixW) (two (slotW 1) (valW (.int 1)) ixW) mulW), (two (two (slotW 1) (valW (.int 0)) ixW) (two (slotW 0) (valW (.int 1)) ixW) mulW)]) (nmW (.tp [(.nm 3), (.nm 4)])),
  ifS (notT (tst (callW (F_law_same jmax) [(callW F_plus [(slotW 0), (slotW 1)]), (callW F_law_due [(two (slotW 3) (slotW 4) addW), (slotW 2)])]))) (seqW [
    retS (valW (.bl false))]) (seqW []),
  ifS (notT (tst (callW (F_law_same jmax) [(callW F_minus [(slotW 0), (slotW 1)]), (callW F_law_due [(two (slotW 3) (slotW 4) subW), (slotW 2)])]))) (seqW [
    retS (valW (.bl false))]) (seqW []),
  ifS (notT (tst (callW (F_law_same jmax) [(callW F_times [(slotW 0), (slotW 1)]), (callW F_law_due [(two (two (slotW 0) (valW (.int 0)) ixW) (two (slotW 1) (valW (.int 0)) ixW) mulW), (slotW 2)])]))) (seqW [
    retS (valW (.bl false))]) (seqW []),
  ifS (notT (tst (callW (F_law_same jmax) [(callW F_law_asked [(valW (.str "over")), (slotW 0), (slotW 1)]), (callW F_law_due [(slotW 3), (two (two (slotW 0) (valW (.int 1)) ixW) (two (slotW 1) (valW (.int 0)) ixW) mulW)])]))) (seqW [
    retS (valW (.bl false))]) (seqW []),
  retS (callW (F_law_same jmax) [(callW F_below [(slotW 0), (slotW 1)]), (two (slotW 3) (slotW 4) ltW)])]
theorem vc_law_both (ds : List D) (S : Sto) (Q : KE) (E : XP) (h : F_law_both ds S Q E) : w_law_both (startG N_law_both ds) S (finD Q) (finX E) := by
  obtain ⟨a, b, c, d, rfl, ⟨h1, h2, h3, h4⟩, hb, hd, hq⟩ := h
  show w_law_both [some (frD a b), some (frD c d), none, none, none] S (finD Q) (finX E)
  unfold w_law_both
  have hbd : b * d ≠ 0 := Int.mul_ne_zero hb hd
  have szf : szF a b c d := ⟨h1, h2, h3, h4⟩
  simp [at2]
  refine ⟨h2.mulok h4, h1.mulok h4, h3.mulok h2, ?_⟩
  refine ⟨a, b, c, d, rfl, szf, h2.mul h4, fun z => absurd z hbd, fun _ => ⟨_, _, rfl, h2.mul h4, ?_⟩⟩
  rw [due_ne hbd]
  refine same_ok rfl ?_
  simp
  refine ⟨a, b, c, d, rfl, szf, h2.mul h4, fun z => absurd z hbd, fun _ => ⟨_, _, rfl, h2.mul h4, ?_⟩⟩
  rw [due_ne hbd]
  refine same_ok rfl ?_
  simp
  refine ⟨a, b, c, d, rfl, szf, h2.mul h4, fun z => absurd z hbd, fun _ => ⟨h1.mulok h3, _, _, rfl, h2.mul h4, ?_⟩⟩
  rw [due_ne hbd]
  refine same_ok rfl ?_
  simp
  refine ⟨_, _, _, rfl, .inr ⟨rfl, a, b, c, d, rfl, rfl, szf, ?_⟩⟩
  simp [at2]
  refine ⟨h2.mulok h3, _, _, rfl, h2.mul h3, ?_⟩
  refine same_ok ok_due ?_
  simp
  exact ⟨a, b, c, d, rfl, szf, same_ok rfl (.of hq)⟩
end Vm
/-! VsE: what the defs promise, plainly: law k01. -/
namespace Vm
open PySem PySem.Spec PyProof.Rows L2
@[simp] theorem u_for0 {body : D → Gam → Sto → (Gam → Sto → Prop) → Prop} {ok : Sto → Prop} {nx : Gam → Sto → Prop} {Γ : Gam} {S : Sto} : forW body ok nx [] Γ S = (ok S ∧ nx Γ S) := propext Iff.rfl
@[simp] theorem u_for1 {body : D → Gam → Sto → (Gam → Sto → Prop) → Prop} {ok : Sto → Prop} {nx : Gam → Sto → Prop} {Γ : Gam} {S : Sto} {d : D} {ds : List D} : forW body ok nx (d :: ds) Γ S = (ok S ∧ body d Γ S (fun Γ' S' => forW body ok nx ds Γ' S')) := propext Iff.rfl
def F_law_right : FS := fun ds S Q E => ∃ p, ds = [.ref p] ∧ Pu p S ∧ ∀ S', Fr p S S' → Q (.bl true) S'
def N_law_right : List Str := ["purse", "alike", "top", "bottom", "much", "a", "b", "x", "y", "due", "k"]
def w_law_right : WS := seqW [
  asgS (callW F_law_take [(slotW 0), (valW (.int 6))]) (nmW (.nm 1)),
  asgS (lcW (rngW [(valW (.int 3))]) (.nm 10) [10] yesT (callW F_law_great [(slotW 0)])) (nmW (.tp [(.nm 2), (.nm 3), (.nm 4)])),
  asgS (tupW [(callW F_law_fraction [(slotW 0)]), (callW F_law_fraction [(slotW 0)])]) (nmW (.tp [(.nm 5), (.nm 6)])),
  ifS (tst (two (slotW 1) (valW (.int 0)) (eqW false))) (seqW [
    asgS (slotW 5) (nmW (.nm 6))]) (seqW []),
  ifS (tst (two (slotW 1) (valW (.int 1)) (eqW false))) (seqW [
    asgS (tupW [(two (valW (.int 0)) (two (slotW 5) (valW (.int 0)) ixW) subW), (two (slotW 5) (valW (.int 1)) ixW)]) (nmW (.nm 6))]) (seqW []),
  forS (itW (lstW [(tupW [(slotW 2), (slotW 3)]), (tupW [(two (slotW 2) (slotW 4) mulW), (two (slotW 3) (slotW 4) mulW)])])) (.tp [(.nm 7), (.nm 8)]) (seqW [
    asgS (callW F_law_due [(slotW 7), (slotW 8)]) (nmW (.nm 9)),
    ifS (notT (tst (callW (F_law_same jmax) [(callW F_law_asked [(valW (.str "fraction")), (slotW 7), (slotW 8)]), (slotW 9)]))) (seqW [
      retS (valW (.bl false))]) (seqW [])]),
  retS (andV [(callW F_law_both [(slotW 5), (slotW 6)]), (callW F_law_both [(slotW 6), (slotW 5)]), (callW F_law_both [(slotW 5), (tupW [(valW (.int 0)), (valW (.int 1))])]), (callW F_law_both [(tupW [(valW (.int 0)), (valW (.int 1))]), (slotW 5)])])]
def w_law_right_tail : List WS := [
  forS (itW (lstW [(tupW [(slotW 2), (slotW 3)]), (tupW [(two (slotW 2) (slotW 4) mulW), (two (slotW 3) (slotW 4) mulW)])])) (.tp [(.nm 7), (.nm 8)]) (seqW [
    asgS (callW F_law_due [(slotW 7), (slotW 8)]) (nmW (.nm 9)),
    ifS (notT (tst (callW (F_law_same jmax) [(callW F_law_asked [(valW (.str "fraction")), (slotW 7), (slotW 8)]), (slotW 9)]))) (seqW [
      retS (valW (.bl false))]) (seqW [])]),
  retS (andV [(callW F_law_both [(slotW 5), (slotW 6)]), (callW F_law_both [(slotW 6), (slotW 5)]), (callW F_law_both [(slotW 5), (tupW [(valW (.int 0)), (valW (.int 1))])]), (callW F_law_both [(tupW [(valW (.int 0)), (valW (.int 1))]), (slotW 5)])])]
def w_law_right_tail1 : List WS := [
  ifS (tst (two (slotW 1) (valW (.int 1)) (eqW false))) (seqW [
    asgS (tupW [(two (valW (.int 0)) (two (slotW 5) (valW (.int 0)) ixW) subW), (two (slotW 5) (valW (.int 1)) ixW)]) (nmW (.nm 6))]) (seqW []),
  forS (itW (lstW [(tupW [(slotW 2), (slotW 3)]), (tupW [(two (slotW 2) (slotW 4) mulW), (two (slotW 3) (slotW 4) mulW)])])) (.tp [(.nm 7), (.nm 8)]) (seqW [
    asgS (callW F_law_due [(slotW 7), (slotW 8)]) (nmW (.nm 9)),
    ifS (notT (tst (callW (F_law_same jmax) [(callW F_law_asked [(valW (.str "fraction")), (slotW 7), (slotW 8)]), (slotW 9)]))) (seqW [
      retS (valW (.bl false))]) (seqW [])]),
  retS (andV [(callW F_law_both [(slotW 5), (slotW 6)]), (callW F_law_both [(slotW 6), (slotW 5)]), (callW F_law_both [(slotW 5), (tupW [(valW (.int 0)), (valW (.int 1))])]), (callW F_law_both [(tupW [(valW (.int 0)), (valW (.int 1))]), (slotW 5)])])]
theorem take3 {acc : List D} (h : acc.length = 3) (hi : ∀ d ∈ acc, ∃ m : Int, S1 m ∧ d = .int m) : ∃ x y z : Int, acc = [.int x, .int y, .int z] ∧ S1 x ∧ S1 y ∧ S1 z := by
  match acc, h with
  | [a, b, c], _ =>
    obtain ⟨x, hx, rfl⟩ := hi a (by simp)
    obtain ⟨y, hy, rfl⟩ := hi b (by simp)
    obtain ⟨z, hz, rfl⟩ := hi c (by simp)
    exact ⟨x, y, z, rfl, hx, hy, hz⟩
theorem seq_cut {s t : WS} {r : List WS} {Γ : Gam} {S : Sto} {D : En} {X : XG} (h : ∀ R : WS, R = seqW (t :: r) → s Γ S ⟨fun Γ' S' => R Γ' S' D X, D.rt⟩ X) : seqW (s :: t :: r) Γ S D X := h _ rfl
theorem vc_law_right (ds : List D) (S : Sto) (Q : KE) (E : XP) (h : F_law_right ds S Q E) : w_law_right (startG N_law_right ds) S (finD Q) (finX E) := by
  obtain ⟨p, rfl, hp, hq⟩ := h
  show w_law_right [some (.ref p), none, none, none, none, none, none, none, none, none, none] S (finD Q) (finX E)
  unfold w_law_right
  refine seq_cut fun R hR => ?_
  simp
  refine ⟨p, 6, rfl, by decide, by decide, hp, fun t T1 t0 t1 f1 p1 => ?_⟩
  subst hR
  refine seq_cut fun R hR => ?_
  simp
  intro l hl
  have hlp := p1.ne hl
  refine comp_inv (fun rest acc S' => (∃ n i : Nat, rest = intsD i n ∧ i + n = 3 ∧ acc.length = i) ∧ (∀ d ∈ acc, ∃ m : Int, S1 m ∧ d = .int m) ∧ Fr p T1 S' ∧ Pu p S') ?_ ?_ _ [] _ ?_ put_same
  · rintro d ds acc S' K ⟨⟨n, i, e, hn, ha⟩, ht, fr, pu⟩ hS hK
    cases n with
    | zero => cases e
    | succ n =>
      rw [intsD_succ] at e
      cases e
      simp [wipeG, clean, cleanO]
      refine ⟨p, rfl, pu, fun m S2 hm f2 p2 => hK _ _ (f2 _ _ hlp hS) (by rw [ha]; exact Nat.lt_of_lt_of_le (show i < 3 by omega) (by decide)) ⟨⟨n, i + 1, rfl, by omega, by simp [ha]⟩, ?_, (fr.trans f2).keep hl, p2.keep hlp⟩⟩
      intro e he
      rcases List.mem_append.mp he with z | z
      · exact ht e z
      · exact ⟨m, hm, List.mem_singleton.mp z⟩
  · rintro acc S' ⟨⟨n, i, e, hn, ha⟩, ht, fr, pu⟩ hS
    cases n with
    | succ n => rw [intsD_succ] at e; cases e
    | zero =>
      obtain ⟨x, y, z, rfl, hx, hy, hz⟩ := take3 (by omega) ht
      refine ⟨trivial, ?_⟩
      simp [u_tp, tgU, tgUs, hS]
      subst hR
      refine seq_cut fun R hR => ?_
      simp
      refine ⟨p, rfl, pu, fun a b T2 ha hb hb0 f2 p2 => ⟨p, rfl, p2, fun c d T3 hc hd hd0 f3 p3 => ?_⟩⟩
      have frS : Fr p S T3 := ((f1.trans fr).trans f2).trans f3
      -- behind both questions of alike
      have key : ∀ c d : Int, Sz c → Sz d → 0 < d → ∀ R, R = seqW (w_law_right_tail) → R [some (.ref p), some (.int t), some (.int x), some (.int y), some (.int z), some (frD a b), some (frD c d), none, none, none, none] T3 (finD Q) (finX E) := by
        intro c d hc hd hd0 R hR
        subst hR
        unfold w_law_right_tail
        refine seq_cut fun R hR => ?_
        simp
        refine ⟨hx.sz.mulok hz.sz, hy.sz.mulok hz.sz, fun q hq' => ⟨_, _, rfl, hy.sz.s9, ?_⟩⟩
        simp
        refine ⟨_, _, _, rfl, .inl ⟨rfl, x, y, rfl, rfl, hy.sz.s9, ?_⟩⟩
        refine same_ok ok_due ?_
        simp
        refine ⟨_, _, rfl, hy.sz.mul hz.sz, ?_⟩
        simp
        refine ⟨_, _, _, rfl, .inl ⟨rfl, _, _, rfl, rfl, hy.sz.mul hz.sz, ?_⟩⟩
        refine same_ok ok_due ?_
        simp
        subst hR
        simp
        have z0 : Sz 0 := ⟨by decide +kernel⟩
        have z1 : Sz 1 := ⟨by decide +kernel⟩
        refine ⟨a, b, c, d, rfl, ⟨ha, hb, hc, hd⟩, by omega, by omega, ?_⟩
        simp
        refine ⟨c, d, a, b, rfl, ⟨hc, hd, ha, hb⟩, by omega, by omega, ?_⟩
        simp
        refine ⟨a, b, 0, 1, rfl, ⟨ha, hb, z0, z1⟩, by omega, by omega, ?_⟩
        simp
        refine ⟨0, 1, a, b, rfl, ⟨z0, z1, ha, hb⟩, by omega, by omega, ?_⟩
        exact .of (hq _ (frS.trans (Fr.new hq')))
      have key2 : ∀ c d : Int, Sz c → Sz d → 0 < d → ∀ R, R = seqW (w_law_right_tail1) → R [some (.ref p), some (.int t), some (.int x), some (.int y), some (.int z), some (frD a b), some (frD c d), none, none, none, none] T3 (finD Q) (finX E) := by
        intro c d hc hd hd0 R hR
        subst hR
        unfold w_law_right_tail1
        refine seq_cut fun R hR => ?_
        simp
        split
        · simp [at2]
          exact key (-a) b ha.neg hb hb0 R hR
        · exact key c d hc hd hd0 R hR
      subst hR
      refine seq_cut fun R hR => ?_
      simp
      split
      · exact key2 a b ha hb hb0 R hR
      · exact key2 c d hc hd hd0 R hR
  · refine ⟨⟨3, 0, rfl, by omega, rfl⟩, fun d hd => (nomatch hd), Fr.new hl, p1.new hl⟩
def N_law : List Str := ["script", "k"]
def w_law : WS := seqW [
  retS (bltW allW [(lcW (rngW [(bltW maxW [(valW (.int 1)), (bltW minW [(bltW lenW [(slotW 0)]), (valW (.int 8))])])]) (.nm 1) [1] yesT (callW F_law_right [(callW F_law_purse [(callW F_law_cell [(slotW 0), (slotW 1)])])]))])]
theorem vc_law_k01 (ds : List D) (S : Sto) (Q : KE) (E : XP) (h : lawF 63 ds S Q E) : w_law (startG N_law ds) S (finD Q) (finX E) := by
  obtain ⟨a, ns, hl, rfl, hs, -, rfl, rfl⟩ := h
  show w_law [some (.ref a), none] S _ _
  unfold w_law
  have e1 : ∀ Q : KE, lenW [.ref a] S Q = Q (.int (ns.map D.int).length) S := fun Q => u_lenR (.inr hs)
  simp [e1]
  refine ⟨by omega, fun l hl2 => ?_⟩
  have hla : l ≠ a := fun e => by rw [e, hs] at hl2; cases hl2
  refine comp_inv (fun rest acc S' => (∃ n i : Nat, rest = intsD i n ∧ i + n ≤ 8 ∧ acc.length = i) ∧ (∀ d ∈ acc, d = .bl true) ∧ S' a = some (.scr (ns.map D.int))) ?_ ?_ _ [] _ ?_ put_same
  · rintro d ds acc S' K ⟨⟨n, i, e, hn, ha⟩, ht, hs'⟩ hS hK
    cases n with
    | zero => cases e
    | succ n =>
      rw [intsD_succ] at e
      cases e
      simp [wipeG, clean, cleanO]
      refine ⟨a, ns, i, rfl, hl, hs', by omega, by omega, fun c => ⟨c, rfl, fun p S2 hp f2 p2 => ⟨p, rfl, p2, fun S3 f3 => ?_⟩⟩⟩
      have hpl : l ≠ p := fun e => by rw [e, hp] at hS; cases hS
      have hpa : a ≠ p := fun e => by rw [e, hp] at hs'; cases hs'
      refine hK _ _ (f3 _ _ hpl (f2 _ _ hpl hS)) (by rw [ha]; exact Nat.lt_of_lt_of_le (show i < 8 by omega) (by decide)) ⟨⟨n, i + 1, rfl, by omega, by simp [ha]⟩, ?_, by rw [put_ne (Ne.symm hla)]; exact f3 _ _ hpa (f2 _ _ hpa hs')⟩
      intro e he
      rcases List.mem_append.mp he with z | z
      · exact ht e z
      · exact List.mem_singleton.mp z
  · rintro acc S' ⟨_, ht, hs'⟩ hS
    exact ⟨trivial, allW_true hS ht (.of rfl)⟩
  · exact ⟨⟨_, 0, rfl, by omega, rfl⟩, fun d hd => (nomatch hd), by rw [put_ne (Ne.symm hla)]; exact hs⟩
end Vm
/-! VsZ: what the printed end of a law leans on. -/
namespace Vm
open PySem PySem.Spec PyProof.Rows L2
section
variable {P : Program} {w : World} {K : PySem.W.Frag} {mg : Str → Option Value} {base h : Heap} {k : Nat} {isi sub : Subs}
theorem vc_cast {m m' : WS} (e : m = m') {Γ : Gam} {S : Sto} {D : En} {X : XG} (h : m' Γ S D X) : m Γ S D X := by
  rw [e]
  exact h
theorem gs_nil : GsK P w K mg base k isi [] := trivial
theorem gs_cons {x : Str} {v : GV} {r : List (Str × GV)} (a : GvK P w K mg base k isi x v) (b : GsK P w K mg base k isi r) : GsK P w K mg base k isi ((x, v) :: r) := ⟨a, b⟩
theorem gv_isi {x : Str} (X : K.In h) (G : h.Ns mainGlobals mg) (c : (He.Fa.glo x).ok K = true) (t : isiTb K isi x (.ref (He.ga K x)) = true) : GvK P w K mg base k isi x .bex :=
  ⟨.ref (He.ga K x), .ref (He.ga K x), .own _, rfl, .inl (He.glo_ok X G c), fun y b C h1 h2 => isiTb_ok t h1 h2⟩
theorem fnok_no {f : Addr} {fd : FuncData} {ps : List Str} {F : FS} {CX : CXT} (_ : True = True) (no : ∀ ds S Q E, ¬ F ds S Q E) : FnOk P w K mg base CX k f fd ps (spOf K F) :=
  ⟨fun vs H Q E ⟨ds, S, Q', E', _, _, z, _⟩ => (no ds S Q' E' z).elim, fun _ _ _ _ _ _ _ _ _ _ _ _ _ ⟨ds, S, Q', E', _, _, z, _⟩ => (no ds S Q' E' z).elim⟩
end
theorem F_law_same_0 (ds : List D) (S : Sto) (Q : KE) (E : XP) (h : F_law_same 0 ds S Q E) : False := by
  obtain ⟨x, _, h, _⟩ := h
  cases h
end Vm
/-! The end of the law: each def keeps its promise; the head. Printed by a program. -/
namespace Vk
open PySem PySem.Spec PyProof.Rows L2 Vm
def tp (i : Nat) : Stmt := PySem.Challenge.pw_vatmatch_k01_fractions_reckoned.main.body.getD i (.Pass ⟨0, 0, 0, 0⟩)
theorem fs_law_take : FnScope N_law_take ["purse", "many"] (defScope (tp 33)) := ⟨rfl, rfl, rfl, by decide +kernel, rfl, by decide +kernel, by decide +kernel⟩
def G_law_take : List (Str × GV) := []
theorem e_law_take : wS 14 14 (gOf N_law_take (defScope (tp 33)) (G_law_take) subT isiT true) (defBody (tp 33)) = w_law_take := by kernel_rfl
def D_law_take : He.DefD := ⟨("_law_take", none), "_law_take", "_law_take", defArgs (tp 33), defBody (tp 33), defScope (tp 33), [], []⟩
theorem fs_law_great : FnScope N_law_great ["purse"] (defScope (tp 35)) := ⟨rfl, rfl, rfl, by decide +kernel, rfl, by decide +kernel, by decide +kernel⟩
def G_law_great : List (Str × GV) := [("range", .rng), ("_law_take", .fn F_law_take)]
theorem e_law_great : wS 14 14 (gOf N_law_great (defScope (tp 35)) (G_law_great) subT isiT true) (defBody (tp 35)) = w_law_great := by kernel_rfl
def D_law_great : He.DefD := ⟨("_law_great", none), "_law_great", "_law_great", defArgs (tp 35), defBody (tp 35), defScope (tp 35), [], []⟩
theorem fs_law_low : FnScope N_law_low ["top", "bottom"] (defScope (tp 34)) := ⟨rfl, rfl, rfl, by decide +kernel, rfl, by decide +kernel, by decide +kernel⟩
def G_law_low : List (Str × GV) := [("abs", .bi .abs)]
theorem e_law_low : wS 14 14 (gOf N_law_low (defScope (tp 34)) (G_law_low) subT isiT true) (defBody (tp 34)) = w_law_low := by kernel_rfl
def D_law_low : He.DefD := ⟨("_law_low", none), "_law_low", "_law_low", defArgs (tp 34), defBody (tp 34), defScope (tp 34), [], []⟩
theorem fs_law_fraction : FnScope N_law_fraction ["purse"] (defScope (tp 38)) := ⟨rfl, rfl, rfl, by decide +kernel, rfl, by decide +kernel, by decide +kernel⟩
def G_law_fraction : List (Str × GV) := [("_law_great", .fn F_law_great), ("_law_low", .fn F_law_low), ("abs", .bi .abs)]
theorem e_law_fraction : wS 14 14 (gOf N_law_fraction (defScope (tp 38)) (G_law_fraction) subT isiT true) (defBody (tp 38)) = w_law_fraction := by kernel_rfl
def D_law_fraction : He.DefD := ⟨("_law_fraction", none), "_law_fraction", "_law_fraction", defArgs (tp 38), defBody (tp 38), defScope (tp 38), [], []⟩
theorem fs_law_due : FnScope N_law_due ["top", "bottom"] (defScope (tp 40)) := ⟨rfl, rfl, rfl, by decide +kernel, rfl, by decide +kernel, by decide +kernel⟩
def G_law_due : List (Str × GV) := [("_law_low", .fn F_law_low)]
theorem e_law_due : wS 14 14 (gOf N_law_due (defScope (tp 40)) (G_law_due) subT isiT true) (defBody (tp 40)) = w_law_due := by kernel_rfl
def D_law_due : He.DefD := ⟨("_law_due", none), "_law_due", "_law_due", defArgs (tp 40), defBody (tp 40), defScope (tp 40), [], []⟩
theorem fs_law_same : FnScope N_law_same ["told", "due"] (defScope (tp 36)) := ⟨rfl, rfl, rfl, by decide +kernel, rfl, by decide +kernel, by decide +kernel⟩
def G_law_same (j : Nat) : List (Str × GV) := [("isinstance", .bi .isi), ("tuple", .bt .tuple), ("str", .bt .str), ("all", .bi .all), ("bool", .bt .bool), ("int", .bt .int), ("len", .bi .len), ("_law_same", .fn (F_law_same j)), ("range", .rng)]
theorem e_law_same (j : Nat) : wS 14 14 (gOf N_law_same (defScope (tp 36)) (G_law_same j) subT isiT true) (defBody (tp 36)) = w_law_same j := by kernel_rfl
def D_law_same : He.DefD := ⟨("_law_same", none), "_law_same", "_law_same", defArgs (tp 36), defBody (tp 36), defScope (tp 36), [], []⟩
theorem fs_below : FnScope N_below ["a", "b"] (defScope (tp 29)) := ⟨rfl, rfl, rfl, by decide +kernel, rfl, by decide +kernel, by decide +kernel⟩
def G_below : List (Str × GV) := []
theorem e_below : wS 14 14 (gOf N_below (defScope (tp 29)) (G_below) subT isiT true) (defBody (tp 29)) = w_below := by kernel_rfl
def D_below : He.DefD := ⟨("below", none), "below", "below", defArgs (tp 29), defBody (tp 29), defScope (tp 29), [], []⟩
theorem fs_divisor : FnScope N_divisor ["one", "other"] (defScope (tp 23)) := ⟨rfl, rfl, rfl, by decide +kernel, rfl, by decide +kernel, by decide +kernel⟩
def G_divisor : List (Str × GV) := [("abs", .bi .abs)]
theorem e_divisor : wS 14 14 (gOf N_divisor (defScope (tp 23)) (G_divisor) subT isiT true) (defBody (tp 23)) = w_divisor := by kernel_rfl
def D_divisor : He.DefD := ⟨("divisor", none), "divisor", "divisor", defArgs (tp 23), defBody (tp 23), defScope (tp 23), [], []⟩
theorem fs_fraction : FnScope N_fraction ["top", "bottom"] (defScope (tp 24)) := ⟨rfl, rfl, rfl, by decide +kernel, rfl, by decide +kernel, by decide +kernel⟩
def G_fraction : List (Str × GV) := [("divisor", .fn F_divisor), ("NoNumber", .exc)]
theorem e_fraction : wS 14 14 (gOf N_fraction (defScope (tp 24)) (G_fraction) subT isiT true) (defBody (tp 24)) = w_fraction := by kernel_rfl
def D_fraction : He.DefD := ⟨("fraction", none), "fraction", "fraction", defArgs (tp 24), defBody (tp 24), defScope (tp 24), [], []⟩
theorem fs_plus : FnScope N_plus ["a", "b"] (defScope (tp 25)) := ⟨rfl, rfl, rfl, by decide +kernel, rfl, by decide +kernel, by decide +kernel⟩
def G_plus : List (Str × GV) := [("fraction", .fn F_fraction)]
theorem e_plus : wS 14 14 (gOf N_plus (defScope (tp 25)) (G_plus) subT isiT true) (defBody (tp 25)) = w_plus := by kernel_rfl
def D_plus : He.DefD := ⟨("plus", none), "plus", "plus", defArgs (tp 25), defBody (tp 25), defScope (tp 25), [], []⟩
theorem fs_minus : FnScope N_minus ["a", "b"] (defScope (tp 26)) := ⟨rfl, rfl, rfl, by decide +kernel, rfl, by decide +kernel, by decide +kernel⟩
def G_minus : List (Str × GV) := [("fraction", .fn F_fraction)]
theorem e_minus : wS 14 14 (gOf N_minus (defScope (tp 26)) (G_minus) subT isiT true) (defBody (tp 26)) = w_minus := by kernel_rfl
def D_minus : He.DefD := ⟨("minus", none), "minus", "minus", defArgs (tp 26), defBody (tp 26), defScope (tp 26), [], []⟩
theorem fs_times : FnScope N_times ["a", "b"] (defScope (tp 27)) := ⟨rfl, rfl, rfl, by decide +kernel, rfl, by decide +kernel, by decide +kernel⟩
def G_times : List (Str × GV) := [("fraction", .fn F_fraction)]
theorem e_times : wS 14 14 (gOf N_times (defScope (tp 27)) (G_times) subT isiT true) (defBody (tp 27)) = w_times := by kernel_rfl
def D_times : He.DefD := ⟨("times", none), "times", "times", defArgs (tp 27), defBody (tp 27), defScope (tp 27), [], []⟩
theorem fs_over : FnScope N_over ["a", "b"] (defScope (tp 28)) := ⟨rfl, rfl, rfl, by decide +kernel, rfl, by decide +kernel, by decide +kernel⟩
def G_over : List (Str × GV) := [("fraction", .fn F_fraction)]
theorem e_over : wS 14 14 (gOf N_over (defScope (tp 28)) (G_over) subT isiT true) (defBody (tp 28)) = w_over := by kernel_rfl
def D_over : He.DefD := ⟨("over", none), "over", "over", defArgs (tp 28), defBody (tp 28), defScope (tp 28), [], []⟩
theorem fs_law_kind : FnScope N_law_kind ["e"] (defScope (tp 37)) := ⟨rfl, rfl, rfl, by decide +kernel, rfl, by decide +kernel, by decide +kernel⟩
def G_law_kind : List (Str × GV) := [("isinstance", .bi .isi), ("NoNumber", .exc), ("NoMany", .exc), ("NoShade", .exc), ("NoStuffs", .exc), ("NoShelf", .exc), ("NoCloths", .exc), ("NoBook", .exc), ("Fails", .bex), ("NoHour", .exc), ("NoName", .exc), ("NoDeed", .exc), ("NoBack", .exc), ("NoMeasures", .exc), ("NoStep", .exc), ("TooLittle", .exc), ("NoWeights", .exc), ("NoPrices", .exc), ("NoVat", .exc), ("NoBrim", .exc), ("NoRow", .exc), ("DyeError", .exc), ("ValueError", .bex)]
theorem e_law_kind : wS 14 14 (gOf N_law_kind (defScope (tp 37)) (G_law_kind) subT isiT false) (defBody (tp 37)) = w_law_kind := by kernel_rfl
def D_law_kind : He.DefD := ⟨("_law_kind", none), "_law_kind", "_law_kind", defArgs (tp 37), defBody (tp 37), defScope (tp 37), [], []⟩
theorem fs_law_asked : FnScope N_law_asked ["word", "a", "b"] (defScope (tp 39)) := ⟨rfl, rfl, rfl, by decide +kernel, rfl, by decide +kernel, by decide +kernel⟩
def G_law_asked : List (Str × GV) := [("DyeError", .exc), ("fraction", .fn F_fraction), ("over", .fn F_over), ("_law_kind", .fnx F_law_kind)]
theorem e_law_asked : wS 14 14 (gOf N_law_asked (defScope (tp 39)) (G_law_asked) subT isiT true) (defBody (tp 39)) = w_law_asked := by kernel_rfl
def D_law_asked : He.DefD := ⟨("_law_asked", none), "_law_asked", "_law_asked", defArgs (tp 39), defBody (tp 39), defScope (tp 39), [], []⟩
theorem fs_law_both : FnScope N_law_both ["a", "b"] (defScope (tp 41)) := ⟨rfl, rfl, rfl, by decide +kernel, rfl, by decide +kernel, by decide +kernel⟩
def G_law_both : List (Str × GV) := [("_law_same", .fn (F_law_same jmax)), ("below", .fn F_below), ("plus", .fn F_plus), ("_law_due", .fn F_law_due), ("minus", .fn F_minus), ("times", .fn F_times), ("_law_asked", .fn F_law_asked)]
theorem e_law_both : wS 14 14 (gOf N_law_both (defScope (tp 41)) (G_law_both) subT isiT true) (defBody (tp 41)) = w_law_both := by kernel_rfl
def D_law_both : He.DefD := ⟨("_law_both", none), "_law_both", "_law_both", defArgs (tp 41), defBody (tp 41), defScope (tp 41), [], []⟩
theorem fs_law_right : FnScope N_law_right ["purse"] (defScope (tp 42)) := ⟨rfl, rfl, rfl, by decide +kernel, rfl, by decide +kernel, by decide +kernel⟩
def G_law_right : List (Str × GV) := [("_law_take", .fn F_law_take), ("_law_great", .fn F_law_great), ("_law_fraction", .fn F_law_fraction), ("_law_due", .fn F_law_due), ("_law_both", .fn F_law_both), ("range", .rng), ("_law_same", .fn (F_law_same jmax)), ("_law_asked", .fn F_law_asked)]
theorem e_law_right : wS 14 14 (gOf N_law_right (defScope (tp 42)) (G_law_right) subT isiT true) (defBody (tp 42)) = w_law_right := by kernel_rfl
def D_law_right : He.DefD := ⟨("_law_right", none), "_law_right", "_law_right", defArgs (tp 42), defBody (tp 42), defScope (tp 42), [], []⟩
theorem fs_law_purse : FnScope N_law_purse ["cell"] (defScope (tp 32)) := ⟨rfl, rfl, rfl, by decide +kernel, rfl, by decide +kernel, by decide +kernel⟩
def G_law_purse : List (Str × GV) := [("abs", .bi .abs)]
theorem e_law_purse : wS 14 14 (gOf N_law_purse (defScope (tp 32)) (G_law_purse) subT isiT true) (defBody (tp 32)) = w_law_purse := by kernel_rfl
def D_law_purse : He.DefD := ⟨("_law_purse", none), "_law_purse", "_law_purse", defArgs (tp 32), defBody (tp 32), defScope (tp 32), [], []⟩
theorem fs_law_cell : FnScope N_law_cell ["script", "k"] (defScope (tp 31)) := ⟨rfl, rfl, rfl, by decide +kernel, rfl, by decide +kernel, by decide +kernel⟩
def G_law_cell : List (Str × GV) := [("len", .bi .len)]
theorem e_law_cell : wS 14 14 (gOf N_law_cell (defScope (tp 31)) (G_law_cell) subT isiT true) (defBody (tp 31)) = w_law_cell := by kernel_rfl
def D_law_cell : He.DefD := ⟨("_law_cell", none), "_law_cell", "_law_cell", defArgs (tp 31), defBody (tp 31), defScope (tp 31), [], []⟩
theorem fs_law : FnScope N_law ["script"] (defScope (tp 43)) := ⟨rfl, rfl, rfl, by decide +kernel, rfl, by decide +kernel, by decide +kernel⟩
def G_law : List (Str × GV) := [("all", .bi .all), ("_law_right", .fn F_law_right), ("_law_purse", .fn F_law_purse), ("range", .rng), ("_law_cell", .fn F_law_cell), ("max", .bi .max), ("min", .bi .min), ("len", .bi .len)]
theorem e_law : wS 14 14 (gOf N_law (defScope (tp 43)) (G_law) subT isiT true) (defBody (tp 43)) = w_law := by kernel_rfl
def D_law : He.DefD := ⟨("law", none), "law", "law", defArgs (tp 43), defBody (tp 43), defScope (tp 43), [], []⟩
def fn : List He.DefD := [D_law_take, D_law_great, D_law_low, D_law_fraction, D_law_due, D_law_same, D_below, D_divisor, D_fraction, D_plus, D_minus, D_times, D_over, D_law_kind, D_law_asked, D_law_both, D_law_right, D_law_purse, D_law_cell, D_law]
def fa : List He.Fa := ([.free "range", .glo "_law_take", .free "abs", .glo "_law_great", .glo "_law_low", .free "isinstance", .free "tuple", .free "str", .free "all", .free "bool", .free "int", .free "len", .glo "_law_same", .glo "divisor", .glo "NoNumber", .exc "NoNumber", .glo "fraction", .glo "NoMany", .exc "NoMany", .glo "NoShade", .exc "NoShade", .glo "NoStuffs", .exc "NoStuffs", .glo "NoShelf", .exc "NoShelf", .glo "NoCloths", .exc "NoCloths", .glo "NoBook", .exc "NoBook", .glo "Fails"] : List He.Fa) ++ ([.glo "NoHour", .exc "NoHour", .glo "NoName", .exc "NoName", .glo "NoDeed", .exc "NoDeed", .glo "NoBack", .exc "NoBack", .glo "NoMeasures", .exc "NoMeasures", .glo "NoStep", .exc "NoStep", .glo "TooLittle", .exc "TooLittle", .glo "NoWeights", .exc "NoWeights", .glo "NoPrices", .exc "NoPrices", .glo "NoVat", .exc "NoVat", .glo "NoBrim", .exc "NoBrim", .glo "NoRow", .exc "NoRow", .glo "DyeError", .exc "DyeError", .free "ValueError", .glo "over", .glo "_law_kind", .glo "below"] : List He.Fa) ++ ([.glo "plus", .glo "_law_due", .glo "minus", .glo "times", .glo "_law_asked", .glo "_law_fraction", .glo "_law_both", .glo "_law_right", .glo "_law_purse", .glo "_law_cell", .free "max", .free "min", .glo "law"] : List He.Fa)
def ys : List Str := (["NoNumber", "NoMany", "NoShade", "NoStuffs", "NoShelf", "NoCloths", "NoBook", "Fails", "NoHour", "NoName", "NoDeed", "NoBack", "NoMeasures", "NoStep", "TooLittle", "NoWeights", "NoPrices", "NoVat", "NoBrim", "NoRow"] : List Str) ++ (["DyeError"] : List Str)
def cs : List (Str × D) := []
def ex (K : PySem.W.Frag) : Bool := subB K subT && ((ys.all fun y => isiTb K isiT y (.ref (He.ga K y))) && (isiTb K isiT "ValueError" (.type "ValueError") && cs.all fun c => conF K c.1 c.2))
abbrev hk : PySem.W.Hook := hookV 4 fa fn ex
def ob (s : PySem.W.SharedT) : AlV := obsV 4 fa fn ex (HandSHeadRun.getT s)
theorem ob_eq (s : PySem.W.SharedT) : ob s = hk.obs s.abs := obsV_eq (HandSHeadRun.getT_eq s)
abbrev R : PySem.W.OpenRow := PySem.W.OpenLaw.row PySem.Challenge.rw_vatmatch_k01_fractions_reckoned
def lo : List Str := (["DyeError", "NoNumber", "NoMany", "NoShade", "NoStuffs", "NoBook", "Fails", "NoHour", "NoName", "NoDeed", "NoBack", "NoShelf", "NoMeasures", "NoStep", "TooLittle", "NoWeights", "NoPrices", "NoVat", "NoBrim", "NoCloths"] : List Str) ++ (["NoRow", "divisor", "fraction", "plus", "minus", "times", "over", "below", "_law_cell", "_law_purse", "_law_take", "_law_low", "_law_great", "_law_same", "_law_kind", "_law_fraction", "_law_asked", "_law_due", "_law_both", "_law_right"] : List Str)
theorem run (w : World) : HandSHeadRun.RunEq R (PySem.W.view R.prog [43]) hk ob 30000 lo w := by
  intro os
  kernel_rfl
theorem facts {w : World} {K : PySem.W.Frag} {mg : Str → Option Value} {f : Addr} {h : Heap} (X : K.In h) (G : h.Ns mainGlobals mg) (hf : mg ("law" : Str) = some (.ref f)) (c : SaysV fa fn ex K) :
    ∃ fd : FuncData, (∀ (s : Shared) (u : Value), BindsTo s fd ⟨[u], []⟩ [("script", u)]) ∧ ∀ base : Heap, K.In base → base.Ns mainGlobals mg → FnOk PySem.Challenge.rw_vatmatch_k01_fractions_reckoned.prog w K mg base (L2N.CX PySem.Challenge.rw_vatmatch_k01_fractions_reckoned.prog w) 8 f fd ["script"] (spOf K (lawF 63)) := by
  obtain ⟨sok, cx⟩ := He.ba c.x
  have sok := subB_ok sok
  obtain ⟨cy, cx⟩ := He.ba cx
  obtain ⟨cv, cc⟩ := He.ba cx
  have cy : ∀ y, y ∈ ys → isiTb K isiT y (.ref (He.ga K y)) = true := fun y hy => List.all_eq_true.mp cy y hy
  have cc : ∀ z, z ∈ cs → conF K z.1 z.2 = true := fun z hz => List.all_eq_true.mp cc z hz
  obtain ⟨fd_law_take, P_law_take⟩ := c.d.def_ 0 (d := D_law_take) rfl
  obtain ⟨fd_law_great, P_law_great⟩ := c.d.def_ 1 (d := D_law_great) rfl
  obtain ⟨fd_law_low, P_law_low⟩ := c.d.def_ 2 (d := D_law_low) rfl
  obtain ⟨fd_law_fraction, P_law_fraction⟩ := c.d.def_ 3 (d := D_law_fraction) rfl
  obtain ⟨fd_law_due, P_law_due⟩ := c.d.def_ 4 (d := D_law_due) rfl
  obtain ⟨fd_law_same, P_law_same⟩ := c.d.def_ 5 (d := D_law_same) rfl
  obtain ⟨fd_below, P_below⟩ := c.d.def_ 6 (d := D_below) rfl
  obtain ⟨fd_divisor, P_divisor⟩ := c.d.def_ 7 (d := D_divisor) rfl
  obtain ⟨fd_fraction, P_fraction⟩ := c.d.def_ 8 (d := D_fraction) rfl
  obtain ⟨fd_plus, P_plus⟩ := c.d.def_ 9 (d := D_plus) rfl
  obtain ⟨fd_minus, P_minus⟩ := c.d.def_ 10 (d := D_minus) rfl
  obtain ⟨fd_times, P_times⟩ := c.d.def_ 11 (d := D_times) rfl
  obtain ⟨fd_over, P_over⟩ := c.d.def_ 12 (d := D_over) rfl
  obtain ⟨fd_law_kind, P_law_kind⟩ := c.d.def_ 13 (d := D_law_kind) rfl
  obtain ⟨fd_law_asked, P_law_asked⟩ := c.d.def_ 14 (d := D_law_asked) rfl
  obtain ⟨fd_law_both, P_law_both⟩ := c.d.def_ 15 (d := D_law_both) rfl
  obtain ⟨fd_law_right, P_law_right⟩ := c.d.def_ 16 (d := D_law_right) rfl
  obtain ⟨fd_law_purse, P_law_purse⟩ := c.d.def_ 17 (d := D_law_purse) rfl
  obtain ⟨fd_law_cell, P_law_cell⟩ := c.d.def_ 18 (d := D_law_cell) rfl
  obtain ⟨fd_law, P_law⟩ := c.d.def_ 19 (d := D_law) rfl
  refine ⟨fd_law, fun s u => P_law.bindsA (ps := ["script"]) (fun _ _ _ _ _ _ us hl => match us, hl with | [_], _ => rfl) s [u] rfl, fun base _ _ => ?_⟩
  have k_law_take : FnK PySem.Challenge.rw_vatmatch_k01_fractions_reckoned.prog w K mg base 1 "_law_take" F_law_take := fnK_of (He.glo_ok X G (c.d.fact 1 (f := .glo "_law_take") rfl)) P_law_take (def_ok (G := G_law_take) (isi := isiT) (sub := subT) (m := 14) (n := 14) (k := 0) P_law_take fs_law_take (gs_nil) sok (fun _ _ _ _ h => by first | (obtain ⟨rfl, _⟩ := h; rfl) | (obtain ⟨_, rfl, _⟩ := h; rfl) | (obtain ⟨_, _, rfl, _⟩ := h; rfl) | (obtain ⟨_, _, _, rfl, _⟩ := h; rfl) | (obtain ⟨_, _, _, _, rfl, _⟩ := h; rfl) | (obtain ⟨_, _, _, _, _, rfl, _⟩ := h; rfl) | (obtain ⟨_, _, _, _, _, _, rfl, _⟩ := h; rfl)) (fun ds S Q E h => vc_cast e_law_take (vc_law_take ds S Q E h))) (fun _ _ _ _ _ _ us hl => match us, hl with | [_, _], _ => rfl)
  have k_law_great : FnK PySem.Challenge.rw_vatmatch_k01_fractions_reckoned.prog w K mg base 2 "_law_great" F_law_great := fnK_of (He.glo_ok X G (c.d.fact 3 (f := .glo "_law_great") rfl)) P_law_great (def_ok (G := G_law_great) (isi := isiT) (sub := subT) (m := 14) (n := 14) (k := 1) P_law_great fs_law_great (gs_cons (gv_rng X G (c.d.fact 0 (f := .free "range") rfl)) (gs_cons ((k_law_take).mono (by decide)) (gs_nil))) sok (fun _ _ _ _ h => by first | (obtain ⟨rfl, _⟩ := h; rfl) | (obtain ⟨_, rfl, _⟩ := h; rfl) | (obtain ⟨_, _, rfl, _⟩ := h; rfl) | (obtain ⟨_, _, _, rfl, _⟩ := h; rfl) | (obtain ⟨_, _, _, _, rfl, _⟩ := h; rfl) | (obtain ⟨_, _, _, _, _, rfl, _⟩ := h; rfl) | (obtain ⟨_, _, _, _, _, _, rfl, _⟩ := h; rfl)) (fun ds S Q E h => vc_cast e_law_great (vc_law_great ds S Q E h))) (fun _ _ _ _ _ _ us hl => match us, hl with | [_], _ => rfl)
  have k_law_low : FnK PySem.Challenge.rw_vatmatch_k01_fractions_reckoned.prog w K mg base 1 "_law_low" F_law_low := fnK_of (He.glo_ok X G (c.d.fact 4 (f := .glo "_law_low") rfl)) P_law_low (def_ok (G := G_law_low) (isi := isiT) (sub := subT) (m := 14) (n := 14) (k := 0) P_law_low fs_law_low (gs_cons (gv_bi (b := .abs) X G (c.d.fact 2 (f := .free "abs") rfl)) (gs_nil)) sok (fun _ _ _ _ h => by first | (obtain ⟨rfl, _⟩ := h; rfl) | (obtain ⟨_, rfl, _⟩ := h; rfl) | (obtain ⟨_, _, rfl, _⟩ := h; rfl) | (obtain ⟨_, _, _, rfl, _⟩ := h; rfl) | (obtain ⟨_, _, _, _, rfl, _⟩ := h; rfl) | (obtain ⟨_, _, _, _, _, rfl, _⟩ := h; rfl) | (obtain ⟨_, _, _, _, _, _, rfl, _⟩ := h; rfl)) (fun ds S Q E h => vc_cast e_law_low (vc_law_low ds S Q E h))) (fun _ _ _ _ _ _ us hl => match us, hl with | [_, _], _ => rfl)
  have k_law_fraction : FnK PySem.Challenge.rw_vatmatch_k01_fractions_reckoned.prog w K mg base 3 "_law_fraction" F_law_fraction := fnK_of (He.glo_ok X G (c.d.fact 65 (f := .glo "_law_fraction") rfl)) P_law_fraction (def_ok (G := G_law_fraction) (isi := isiT) (sub := subT) (m := 14) (n := 14) (k := 2) P_law_fraction fs_law_fraction (gs_cons ((k_law_great).mono (by decide)) (gs_cons ((k_law_low).mono (by decide)) (gs_cons (gv_bi (b := .abs) X G (c.d.fact 2 (f := .free "abs") rfl)) (gs_nil)))) sok (fun _ _ _ _ h => by first | (obtain ⟨rfl, _⟩ := h; rfl) | (obtain ⟨_, rfl, _⟩ := h; rfl) | (obtain ⟨_, _, rfl, _⟩ := h; rfl) | (obtain ⟨_, _, _, rfl, _⟩ := h; rfl) | (obtain ⟨_, _, _, _, rfl, _⟩ := h; rfl) | (obtain ⟨_, _, _, _, _, rfl, _⟩ := h; rfl) | (obtain ⟨_, _, _, _, _, _, rfl, _⟩ := h; rfl)) (fun ds S Q E h => vc_cast e_law_fraction (vc_law_fraction ds S Q E h))) (fun _ _ _ _ _ _ us hl => match us, hl with | [_], _ => rfl)
  have k_law_due : FnK PySem.Challenge.rw_vatmatch_k01_fractions_reckoned.prog w K mg base 2 "_law_due" F_law_due := fnK_of (He.glo_ok X G (c.d.fact 61 (f := .glo "_law_due") rfl)) P_law_due (def_ok (G := G_law_due) (isi := isiT) (sub := subT) (m := 14) (n := 14) (k := 1) P_law_due fs_law_due (gs_cons ((k_law_low).mono (by decide)) (gs_nil)) sok (fun _ _ _ _ h => by first | (obtain ⟨rfl, _⟩ := h; rfl) | (obtain ⟨_, rfl, _⟩ := h; rfl) | (obtain ⟨_, _, rfl, _⟩ := h; rfl) | (obtain ⟨_, _, _, rfl, _⟩ := h; rfl) | (obtain ⟨_, _, _, _, rfl, _⟩ := h; rfl) | (obtain ⟨_, _, _, _, _, rfl, _⟩ := h; rfl) | (obtain ⟨_, _, _, _, _, _, rfl, _⟩ := h; rfl)) (fun ds S Q E h => vc_cast e_law_due (vc_law_due ds S Q E h))) (fun _ _ _ _ _ _ us hl => match us, hl with | [_, _], _ => rfl)
  have k_law_same : ∀ j : Nat, FnK PySem.Challenge.rw_vatmatch_k01_fractions_reckoned.prog w K mg base (j + 1) "_law_same" (F_law_same j) := by
    intro j
    induction j with
    | zero => exact fnK_of (He.glo_ok X G (c.d.fact 12 (f := .glo "_law_same") rfl)) P_law_same (fnok_no (ps := ["told", "due"]) (by rfl) fun ds S Q E h => F_law_same_0 ds S Q E h) (fun _ _ _ _ _ _ us hl => match us, hl with | [_, _], _ => rfl)
    | succ j ih => exact fnK_of (He.glo_ok X G (c.d.fact 12 (f := .glo "_law_same") rfl)) P_law_same (def_ok (G := G_law_same j) (isi := isiT) (sub := subT) (m := 14) (n := 14) (k := j + 1) P_law_same fs_law_same (gs_cons (gv_bi (b := .isi) X G (c.d.fact 5 (f := .free "isinstance") rfl)) (gs_cons (gv_bt (t := .tuple) X G (c.d.fact 6 (f := .free "tuple") rfl)) (gs_cons (gv_bt (t := .str) X G (c.d.fact 7 (f := .free "str") rfl)) (gs_cons (gv_bi (b := .all) X G (c.d.fact 8 (f := .free "all") rfl)) (gs_cons (gv_bt (t := .bool) X G (c.d.fact 9 (f := .free "bool") rfl)) (gs_cons (gv_bt (t := .int) X G (c.d.fact 10 (f := .free "int") rfl)) (gs_cons (gv_bi (b := .len) X G (c.d.fact 11 (f := .free "len") rfl)) (gs_cons (ih) (gs_cons (gv_rng X G (c.d.fact 0 (f := .free "range") rfl)) (gs_nil)))))))))) sok (fun _ _ _ _ h => by first | (obtain ⟨rfl, _⟩ := h; rfl) | (obtain ⟨_, rfl, _⟩ := h; rfl) | (obtain ⟨_, _, rfl, _⟩ := h; rfl) | (obtain ⟨_, _, _, rfl, _⟩ := h; rfl) | (obtain ⟨_, _, _, _, rfl, _⟩ := h; rfl) | (obtain ⟨_, _, _, _, _, rfl, _⟩ := h; rfl) | (obtain ⟨_, _, _, _, _, _, rfl, _⟩ := h; rfl)) (fun ds S Q E h => vc_cast (e_law_same j) (vc_law_same j ds S Q E h))) (fun _ _ _ _ _ _ us hl => match us, hl with | [_, _], _ => rfl)
  have k_below : FnK PySem.Challenge.rw_vatmatch_k01_fractions_reckoned.prog w K mg base 1 "below" F_below := fnK_of (He.glo_ok X G (c.d.fact 59 (f := .glo "below") rfl)) P_below (def_ok (G := G_below) (isi := isiT) (sub := subT) (m := 14) (n := 14) (k := 0) P_below fs_below (gs_nil) sok (fun _ _ _ _ h => by first | (obtain ⟨rfl, _⟩ := h; rfl) | (obtain ⟨_, rfl, _⟩ := h; rfl) | (obtain ⟨_, _, rfl, _⟩ := h; rfl) | (obtain ⟨_, _, _, rfl, _⟩ := h; rfl) | (obtain ⟨_, _, _, _, rfl, _⟩ := h; rfl) | (obtain ⟨_, _, _, _, _, rfl, _⟩ := h; rfl) | (obtain ⟨_, _, _, _, _, _, rfl, _⟩ := h; rfl)) (fun ds S Q E h => vc_cast e_below (vc_below ds S Q E h))) (fun _ _ _ _ _ _ us hl => match us, hl with | [_, _], _ => rfl)
  have k_divisor : FnK PySem.Challenge.rw_vatmatch_k01_fractions_reckoned.prog w K mg base 1 "divisor" F_divisor := fnK_of (He.glo_ok X G (c.d.fact 13 (f := .glo "divisor") rfl)) P_divisor (def_ok (G := G_divisor) (isi := isiT) (sub := subT) (m := 14) (n := 14) (k := 0) P_divisor fs_divisor (gs_cons (gv_bi (b := .abs) X G (c.d.fact 2 (f := .free "abs") rfl)) (gs_nil)) sok (fun _ _ _ _ h => by first | (obtain ⟨rfl, _⟩ := h; rfl) | (obtain ⟨_, rfl, _⟩ := h; rfl) | (obtain ⟨_, _, rfl, _⟩ := h; rfl) | (obtain ⟨_, _, _, rfl, _⟩ := h; rfl) | (obtain ⟨_, _, _, _, rfl, _⟩ := h; rfl) | (obtain ⟨_, _, _, _, _, rfl, _⟩ := h; rfl) | (obtain ⟨_, _, _, _, _, _, rfl, _⟩ := h; rfl)) (fun ds S Q E h => vc_cast e_divisor (vc_divisor ds S Q E h))) (fun _ _ _ _ _ _ us hl => match us, hl with | [_, _], _ => rfl)
  have k_fraction : FnK PySem.Challenge.rw_vatmatch_k01_fractions_reckoned.prog w K mg base 2 "fraction" F_fraction := fnK_of (He.glo_ok X G (c.d.fact 16 (f := .glo "fraction") rfl)) P_fraction (def_ok (G := G_fraction) (isi := isiT) (sub := subT) (m := 14) (n := 14) (k := 1) P_fraction fs_fraction (gs_cons ((k_divisor).mono (by decide)) (gs_cons (gv_exc X G (c.d.fact 14 (f := .glo "NoNumber") rfl) (c.d.fact 15 (f := .exc "NoNumber") rfl) (cy _ (by decide +kernel))) (gs_nil))) sok (fun _ _ _ _ h => by first | (obtain ⟨rfl, _⟩ := h; rfl) | (obtain ⟨_, rfl, _⟩ := h; rfl) | (obtain ⟨_, _, rfl, _⟩ := h; rfl) | (obtain ⟨_, _, _, rfl, _⟩ := h; rfl) | (obtain ⟨_, _, _, _, rfl, _⟩ := h; rfl) | (obtain ⟨_, _, _, _, _, rfl, _⟩ := h; rfl) | (obtain ⟨_, _, _, _, _, _, rfl, _⟩ := h; rfl)) (fun ds S Q E h => vc_cast e_fraction (vc_fraction ds S Q E h))) (fun _ _ _ _ _ _ us hl => match us, hl with | [_, _], _ => rfl)
  have k_plus : FnK PySem.Challenge.rw_vatmatch_k01_fractions_reckoned.prog w K mg base 3 "plus" F_plus := fnK_of (He.glo_ok X G (c.d.fact 60 (f := .glo "plus") rfl)) P_plus (def_ok (G := G_plus) (isi := isiT) (sub := subT) (m := 14) (n := 14) (k := 2) P_plus fs_plus (gs_cons ((k_fraction).mono (by decide)) (gs_nil)) sok (fun _ _ _ _ h => by first | (obtain ⟨rfl, _⟩ := h; rfl) | (obtain ⟨_, rfl, _⟩ := h; rfl) | (obtain ⟨_, _, rfl, _⟩ := h; rfl) | (obtain ⟨_, _, _, rfl, _⟩ := h; rfl) | (obtain ⟨_, _, _, _, rfl, _⟩ := h; rfl) | (obtain ⟨_, _, _, _, _, rfl, _⟩ := h; rfl) | (obtain ⟨_, _, _, _, _, _, rfl, _⟩ := h; rfl)) (fun ds S Q E h => vc_cast e_plus (vc_plus ds S Q E h))) (fun _ _ _ _ _ _ us hl => match us, hl with | [_, _], _ => rfl)
  have k_minus : FnK PySem.Challenge.rw_vatmatch_k01_fractions_reckoned.prog w K mg base 3 "minus" F_minus := fnK_of (He.glo_ok X G (c.d.fact 62 (f := .glo "minus") rfl)) P_minus (def_ok (G := G_minus) (isi := isiT) (sub := subT) (m := 14) (n := 14) (k := 2) P_minus fs_minus (gs_cons ((k_fraction).mono (by decide)) (gs_nil)) sok (fun _ _ _ _ h => by first | (obtain ⟨rfl, _⟩ := h; rfl) | (obtain ⟨_, rfl, _⟩ := h; rfl) | (obtain ⟨_, _, rfl, _⟩ := h; rfl) | (obtain ⟨_, _, _, rfl, _⟩ := h; rfl) | (obtain ⟨_, _, _, _, rfl, _⟩ := h; rfl) | (obtain ⟨_, _, _, _, _, rfl, _⟩ := h; rfl) | (obtain ⟨_, _, _, _, _, _, rfl, _⟩ := h; rfl)) (fun ds S Q E h => vc_cast e_minus (vc_minus ds S Q E h))) (fun _ _ _ _ _ _ us hl => match us, hl with | [_, _], _ => rfl)
  have k_times : FnK PySem.Challenge.rw_vatmatch_k01_fractions_reckoned.prog w K mg base 3 "times" F_times := fnK_of (He.glo_ok X G (c.d.fact 63 (f := .glo "times") rfl)) P_times (def_ok (G := G_times) (isi := isiT) (sub := subT) (m := 14) (n := 14) (k := 2) P_times fs_times (gs_cons ((k_fraction).mono (by decide)) (gs_nil)) sok (fun _ _ _ _ h => by first | (obtain ⟨rfl, _⟩ := h; rfl) | (obtain ⟨_, rfl, _⟩ := h; rfl) | (obtain ⟨_, _, rfl, _⟩ := h; rfl) | (obtain ⟨_, _, _, rfl, _⟩ := h; rfl) | (obtain ⟨_, _, _, _, rfl, _⟩ := h; rfl) | (obtain ⟨_, _, _, _, _, rfl, _⟩ := h; rfl) | (obtain ⟨_, _, _, _, _, _, rfl, _⟩ := h; rfl)) (fun ds S Q E h => vc_cast e_times (vc_times ds S Q E h))) (fun _ _ _ _ _ _ us hl => match us, hl with | [_, _], _ => rfl)
  have k_over : FnK PySem.Challenge.rw_vatmatch_k01_fractions_reckoned.prog w K mg base 3 "over" F_over := fnK_of (He.glo_ok X G (c.d.fact 57 (f := .glo "over") rfl)) P_over (def_ok (G := G_over) (isi := isiT) (sub := subT) (m := 14) (n := 14) (k := 2) P_over fs_over (gs_cons ((k_fraction).mono (by decide)) (gs_nil)) sok (fun _ _ _ _ h => by first | (obtain ⟨rfl, _⟩ := h; rfl) | (obtain ⟨_, rfl, _⟩ := h; rfl) | (obtain ⟨_, _, rfl, _⟩ := h; rfl) | (obtain ⟨_, _, _, rfl, _⟩ := h; rfl) | (obtain ⟨_, _, _, _, rfl, _⟩ := h; rfl) | (obtain ⟨_, _, _, _, _, rfl, _⟩ := h; rfl) | (obtain ⟨_, _, _, _, _, _, rfl, _⟩ := h; rfl)) (fun ds S Q E h => vc_cast e_over (vc_over ds S Q E h))) (fun _ _ _ _ _ _ us hl => match us, hl with | [_, _], _ => rfl)
  have k_law_kind : FnKX PySem.Challenge.rw_vatmatch_k01_fractions_reckoned.prog w K mg base 1 "_law_kind" F_law_kind := fnKX_of (He.glo_ok X G (c.d.fact 58 (f := .glo "_law_kind") rfl)) P_law_kind (defx_ok (G := G_law_kind) (isi := isiT) (sub := subT) (m := 14) (n := 14) (k := 0) P_law_kind fs_law_kind (gs_cons (gv_bi (b := .isi) X G (c.d.fact 5 (f := .free "isinstance") rfl)) (gs_cons (gv_exc X G (c.d.fact 14 (f := .glo "NoNumber") rfl) (c.d.fact 15 (f := .exc "NoNumber") rfl) (cy _ (by decide +kernel))) (gs_cons (gv_exc X G (c.d.fact 17 (f := .glo "NoMany") rfl) (c.d.fact 18 (f := .exc "NoMany") rfl) (cy _ (by decide +kernel))) (gs_cons (gv_exc X G (c.d.fact 19 (f := .glo "NoShade") rfl) (c.d.fact 20 (f := .exc "NoShade") rfl) (cy _ (by decide +kernel))) (gs_cons (gv_exc X G (c.d.fact 21 (f := .glo "NoStuffs") rfl) (c.d.fact 22 (f := .exc "NoStuffs") rfl) (cy _ (by decide +kernel))) (gs_cons (gv_exc X G (c.d.fact 23 (f := .glo "NoShelf") rfl) (c.d.fact 24 (f := .exc "NoShelf") rfl) (cy _ (by decide +kernel))) (gs_cons (gv_exc X G (c.d.fact 25 (f := .glo "NoCloths") rfl) (c.d.fact 26 (f := .exc "NoCloths") rfl) (cy _ (by decide +kernel))) (gs_cons (gv_exc X G (c.d.fact 27 (f := .glo "NoBook") rfl) (c.d.fact 28 (f := .exc "NoBook") rfl) (cy _ (by decide +kernel))) (gs_cons (gv_isi X G (c.d.fact 29 (f := .glo "Fails") rfl) (cy _ (by decide +kernel))) (gs_cons (gv_exc X G (c.d.fact 30 (f := .glo "NoHour") rfl) (c.d.fact 31 (f := .exc "NoHour") rfl) (cy _ (by decide +kernel))) (gs_cons (gv_exc X G (c.d.fact 32 (f := .glo "NoName") rfl) (c.d.fact 33 (f := .exc "NoName") rfl) (cy _ (by decide +kernel))) (gs_cons (gv_exc X G (c.d.fact 34 (f := .glo "NoDeed") rfl) (c.d.fact 35 (f := .exc "NoDeed") rfl) (cy _ (by decide +kernel))) (gs_cons (gv_exc X G (c.d.fact 36 (f := .glo "NoBack") rfl) (c.d.fact 37 (f := .exc "NoBack") rfl) (cy _ (by decide +kernel))) (gs_cons (gv_exc X G (c.d.fact 38 (f := .glo "NoMeasures") rfl) (c.d.fact 39 (f := .exc "NoMeasures") rfl) (cy _ (by decide +kernel))) (gs_cons (gv_exc X G (c.d.fact 40 (f := .glo "NoStep") rfl) (c.d.fact 41 (f := .exc "NoStep") rfl) (cy _ (by decide +kernel))) (gs_cons (gv_exc X G (c.d.fact 42 (f := .glo "TooLittle") rfl) (c.d.fact 43 (f := .exc "TooLittle") rfl) (cy _ (by decide +kernel))) (gs_cons (gv_exc X G (c.d.fact 44 (f := .glo "NoWeights") rfl) (c.d.fact 45 (f := .exc "NoWeights") rfl) (cy _ (by decide +kernel))) (gs_cons (gv_exc X G (c.d.fact 46 (f := .glo "NoPrices") rfl) (c.d.fact 47 (f := .exc "NoPrices") rfl) (cy _ (by decide +kernel))) (gs_cons (gv_exc X G (c.d.fact 48 (f := .glo "NoVat") rfl) (c.d.fact 49 (f := .exc "NoVat") rfl) (cy _ (by decide +kernel))) (gs_cons (gv_exc X G (c.d.fact 50 (f := .glo "NoBrim") rfl) (c.d.fact 51 (f := .exc "NoBrim") rfl) (cy _ (by decide +kernel))) (gs_cons (gv_exc X G (c.d.fact 52 (f := .glo "NoRow") rfl) (c.d.fact 53 (f := .exc "NoRow") rfl) (cy _ (by decide +kernel))) (gs_cons (gv_exc X G (c.d.fact 54 (f := .glo "DyeError") rfl) (c.d.fact 55 (f := .exc "DyeError") rfl) (cy _ (by decide +kernel))) (gs_cons (gv_bex (n := "ValueError") X G (c.d.fact 56 (f := .free "ValueError") rfl) (by decide +kernel) (by decide +kernel) cv) (gs_nil)))))))))))))))))))))))) sok (fun _ _ _ _ h => by first | (obtain ⟨rfl, _⟩ := h; rfl) | (obtain ⟨_, rfl, _⟩ := h; rfl) | (obtain ⟨_, _, rfl, _⟩ := h; rfl) | (obtain ⟨_, _, _, rfl, _⟩ := h; rfl) | (obtain ⟨_, _, _, _, rfl, _⟩ := h; rfl) | (obtain ⟨_, _, _, _, _, rfl, _⟩ := h; rfl) | (obtain ⟨_, _, _, _, _, _, rfl, _⟩ := h; rfl)) (fun ds S Q E h => vc_cast e_law_kind (vc_law_kind ds S Q E h))) (fun _ _ _ _ _ _ us hl => match us, hl with | [_], _ => rfl)
  have k_law_asked : FnK PySem.Challenge.rw_vatmatch_k01_fractions_reckoned.prog w K mg base 4 "_law_asked" F_law_asked := fnK_of (He.glo_ok X G (c.d.fact 64 (f := .glo "_law_asked") rfl)) P_law_asked (def_ok (G := G_law_asked) (isi := isiT) (sub := subT) (m := 14) (n := 14) (k := 3) P_law_asked fs_law_asked (gs_cons (gv_exc X G (c.d.fact 54 (f := .glo "DyeError") rfl) (c.d.fact 55 (f := .exc "DyeError") rfl) (cy _ (by decide +kernel))) (gs_cons ((k_fraction).mono (by decide)) (gs_cons ((k_over).mono (by decide)) (gs_cons ((k_law_kind).mono (by decide)) (gs_nil))))) sok (fun _ _ _ _ h => by first | (obtain ⟨rfl, _⟩ := h; rfl) | (obtain ⟨_, rfl, _⟩ := h; rfl) | (obtain ⟨_, _, rfl, _⟩ := h; rfl) | (obtain ⟨_, _, _, rfl, _⟩ := h; rfl) | (obtain ⟨_, _, _, _, rfl, _⟩ := h; rfl) | (obtain ⟨_, _, _, _, _, rfl, _⟩ := h; rfl) | (obtain ⟨_, _, _, _, _, _, rfl, _⟩ := h; rfl)) (fun ds S Q E h => vc_cast e_law_asked (vc_law_asked ds S Q E h))) (fun _ _ _ _ _ _ us hl => match us, hl with | [_, _, _], _ => rfl)
  have k_law_both : FnK PySem.Challenge.rw_vatmatch_k01_fractions_reckoned.prog w K mg base 6 "_law_both" F_law_both := fnK_of (He.glo_ok X G (c.d.fact 66 (f := .glo "_law_both") rfl)) P_law_both (def_ok (G := G_law_both) (isi := isiT) (sub := subT) (m := 14) (n := 14) (k := 5) P_law_both fs_law_both (gs_cons ((k_law_same 4).mono (by decide)) (gs_cons ((k_below).mono (by decide)) (gs_cons ((k_plus).mono (by decide)) (gs_cons ((k_law_due).mono (by decide)) (gs_cons ((k_minus).mono (by decide)) (gs_cons ((k_times).mono (by decide)) (gs_cons ((k_law_asked).mono (by decide)) (gs_nil)))))))) sok (fun _ _ _ _ h => by first | (obtain ⟨rfl, _⟩ := h; rfl) | (obtain ⟨_, rfl, _⟩ := h; rfl) | (obtain ⟨_, _, rfl, _⟩ := h; rfl) | (obtain ⟨_, _, _, rfl, _⟩ := h; rfl) | (obtain ⟨_, _, _, _, rfl, _⟩ := h; rfl) | (obtain ⟨_, _, _, _, _, rfl, _⟩ := h; rfl) | (obtain ⟨_, _, _, _, _, _, rfl, _⟩ := h; rfl)) (fun ds S Q E h => vc_cast e_law_both (vc_law_both ds S Q E h))) (fun _ _ _ _ _ _ us hl => match us, hl with | [_, _], _ => rfl)
  have k_law_right : FnK PySem.Challenge.rw_vatmatch_k01_fractions_reckoned.prog w K mg base 7 "_law_right" F_law_right := fnK_of (He.glo_ok X G (c.d.fact 67 (f := .glo "_law_right") rfl)) P_law_right (def_ok (G := G_law_right) (isi := isiT) (sub := subT) (m := 14) (n := 14) (k := 6) P_law_right fs_law_right (gs_cons ((k_law_take).mono (by decide)) (gs_cons ((k_law_great).mono (by decide)) (gs_cons ((k_law_fraction).mono (by decide)) (gs_cons ((k_law_due).mono (by decide)) (gs_cons ((k_law_both).mono (by decide)) (gs_cons (gv_rng X G (c.d.fact 0 (f := .free "range") rfl)) (gs_cons ((k_law_same 4).mono (by decide)) (gs_cons ((k_law_asked).mono (by decide)) (gs_nil))))))))) sok (fun _ _ _ _ h => by first | (obtain ⟨rfl, _⟩ := h; rfl) | (obtain ⟨_, rfl, _⟩ := h; rfl) | (obtain ⟨_, _, rfl, _⟩ := h; rfl) | (obtain ⟨_, _, _, rfl, _⟩ := h; rfl) | (obtain ⟨_, _, _, _, rfl, _⟩ := h; rfl) | (obtain ⟨_, _, _, _, _, rfl, _⟩ := h; rfl) | (obtain ⟨_, _, _, _, _, _, rfl, _⟩ := h; rfl)) (fun ds S Q E h => vc_cast e_law_right (vc_law_right ds S Q E h))) (fun _ _ _ _ _ _ us hl => match us, hl with | [_], _ => rfl)
  have k_law_purse : FnK PySem.Challenge.rw_vatmatch_k01_fractions_reckoned.prog w K mg base 1 "_law_purse" F_law_purse := fnK_of (He.glo_ok X G (c.d.fact 68 (f := .glo "_law_purse") rfl)) P_law_purse (def_ok (G := G_law_purse) (isi := isiT) (sub := subT) (m := 14) (n := 14) (k := 0) P_law_purse fs_law_purse (gs_cons (gv_bi (b := .abs) X G (c.d.fact 2 (f := .free "abs") rfl)) (gs_nil)) sok (fun _ _ _ _ h => by first | (obtain ⟨rfl, _⟩ := h; rfl) | (obtain ⟨_, rfl, _⟩ := h; rfl) | (obtain ⟨_, _, rfl, _⟩ := h; rfl) | (obtain ⟨_, _, _, rfl, _⟩ := h; rfl) | (obtain ⟨_, _, _, _, rfl, _⟩ := h; rfl) | (obtain ⟨_, _, _, _, _, rfl, _⟩ := h; rfl) | (obtain ⟨_, _, _, _, _, _, rfl, _⟩ := h; rfl)) (fun ds S Q E h => vc_cast e_law_purse (vc_law_purse ds S Q E h))) (fun _ _ _ _ _ _ us hl => match us, hl with | [_], _ => rfl)
  have k_law_cell : FnK PySem.Challenge.rw_vatmatch_k01_fractions_reckoned.prog w K mg base 1 "_law_cell" F_law_cell := fnK_of (He.glo_ok X G (c.d.fact 69 (f := .glo "_law_cell") rfl)) P_law_cell (def_ok (G := G_law_cell) (isi := isiT) (sub := subT) (m := 14) (n := 14) (k := 0) P_law_cell fs_law_cell (gs_cons (gv_bi (b := .len) X G (c.d.fact 11 (f := .free "len") rfl)) (gs_nil)) sok (fun _ _ _ _ h => by first | (obtain ⟨rfl, _⟩ := h; rfl) | (obtain ⟨_, rfl, _⟩ := h; rfl) | (obtain ⟨_, _, rfl, _⟩ := h; rfl) | (obtain ⟨_, _, _, rfl, _⟩ := h; rfl) | (obtain ⟨_, _, _, _, rfl, _⟩ := h; rfl) | (obtain ⟨_, _, _, _, _, rfl, _⟩ := h; rfl) | (obtain ⟨_, _, _, _, _, _, rfl, _⟩ := h; rfl)) (fun ds S Q E h => vc_cast e_law_cell (vc_law_cell ds S Q E h))) (fun _ _ _ _ _ _ us hl => match us, hl with | [_, _], _ => rfl)
  have e0 := hf.symm.trans (He.glo_ok X G (c.d.fact 72 (f := .glo "law") rfl))
  cases e0
  exact def_ok (G := G_law) (isi := isiT) (sub := subT) (m := 14) (n := 14) (k := 7) P_law fs_law (gs_cons (gv_bi (b := .all) X G (c.d.fact 8 (f := .free "all") rfl)) (gs_cons ((k_law_right).mono (by decide)) (gs_cons ((k_law_purse).mono (by decide)) (gs_cons (gv_rng X G (c.d.fact 0 (f := .free "range") rfl)) (gs_cons ((k_law_cell).mono (by decide)) (gs_cons (gv_bi (b := .max) X G (c.d.fact 70 (f := .free "max") rfl)) (gs_cons (gv_bi (b := .min) X G (c.d.fact 71 (f := .free "min") rfl)) (gs_cons (gv_bi (b := .len) X G (c.d.fact 11 (f := .free "len") rfl)) (gs_nil))))))))) sok (fun _ _ _ _ h => by obtain ⟨_, _, _, rfl, _⟩ := h; rfl) (fun ds S Q E h => vc_cast e_law (vc_law_k01 ds S Q E h))
end Vk
open PySem PySem.W PySem.Calls PyProof.Rows
theorem PySem.Challenge.cw_vatmatch_k01_fractions_reckoned_holds : PySem.Challenge.rw_vatmatch_k01_fractions_reckoned.Holds := by
  w_on; o_law
  refine HandSHeadRun.head_any (r := Vk.R) (q := view Vk.R.prog [43])
    (H := Vk.hk) (ob := Vk.ob) (M := 30000) (loose := Vk.lo) (d := HandSHeadRun.topDef Vk.R.prog 43) (kwd := []) Vk.ob_eq
    (by kernel_rfl) (fun s => by kernel_rfl) Vk.run (by kernel_rfl) (by kernel_rfl)
    (by kernel_rfl) (by rfl) (by first | assumption | decide +kernel) (by decide +kernel)
    ⟨rfl, rfl, rfl, rfl, rfl, by decide +kernel⟩ ?hw ?hc
  case hw => w_witness2
  case hc =>
    refine Vm.law_end (l := PySem.Challenge.rw_vatmatch_k01_fractions_reckoned) (n := 63) (k := 7) (x := "script") rfl (by decide)
      (by kernel_rfl) ⟨rfl, by decide, by decide⟩ ?F
    intro w K mg f h X G hmg0 c
    have hmg : mg ("law" : PySem.Str) = some (.ref f) := by
      have e : (HandSHeadRun.topDef Vk.R.prog 43).name = ("law" : PySem.Str) := by kernel_rfl
      rw [← e]; exact hmg0
    exact Vk.facts X G hmg c
